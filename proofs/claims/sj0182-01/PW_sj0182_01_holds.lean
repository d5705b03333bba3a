import PyProof.Rows.All
import Wide.All
import OpenK.AllK
import Wide.FinOn
import PySem.Challenge.RW_sj0182_01
set_option Elab.async false
set_option maxRecDepth 100000
set_option maxHeartbeats 0
set_option linter.unusedVariables false
set_option linter.unusedSimpArgs false
set_option genSizeOf false
set_option compiler.extract_closed false
set_option bootstrap.genMatcherCode false
set_option genSizeOfSpec false
namespace Mine
open PySem PySem.W PyProof.Rows PySem.Calls PySem.SeqAt PySem.Challenge

-- the head: what the top leaves, object by object
-- the statements of the text, by their place
noncomputable def stAt (i : Nat) : Stmt := match pw_sj0182_01.main.body[i]? with | some s => s | none => .Pass ⟨0, 0, 0, 0⟩
noncomputable def methAt (j : Nat) : Stmt := match stAt 14 with
  | .ClassDef (body := b) .. => (match b[j]? with | some s => s | none => .Pass ⟨0, 0, 0, 0⟩)
  | _ => .Pass ⟨0, 0, 0, 0⟩
-- what a def makes of its statement: a function, its code
noncomputable def fnO (s : Stmt) (qual : Str) (dv : Value) (mod : Str) (mt : Nat) (c : Addr) : Obj := match s with
  | .FunctionDef (name := n) (args := a) (body := b) (scope := sc) .. => { cls := .type "function", data := .func { name := n, qualname := qual, params := a, body := .stmts b, scope := sc, globals := 3, closure := [], defaults := dv, kwdefaults := .none, pyModule := .str mod mt, code := .ref c } }
  | _ => default
noncomputable def cdO (c : Nat) (n q : Str) (t line argc t2 : Nat) : Obj :=
  { cls := .type "code", data := .fields #[.str n t, .str q (t + 1), .str "/claim/cut.py" (t + 2), .int line 0, .int argc 0, .int 0 0, .int 0 0, .int 3 0, .ref (c - 5), .bool true, .int 181 0, .ref (c - 4), .none, .ref (c - 3), .ref (c - 2), .ref (c - 1), .int t2 0, .int line 0, .str "/claim/cut.py" (t2 + 1)] }
noncomputable def dE (P : Params) (k : Str) (t : Tok) (v : Value) : DictEntry := ⟨PyData.keyHash P k, .str k t, v⟩
noncomputable def fnT (s : Stmt) (qual : Str) : Obj := match s with
  | .FunctionDef (name := n) (args := a) (body := b) (scope := sc) .. => { cls := .none, data := .func { name := n, qualname := qual, params := a, body := .stmts b, scope := sc, globals := 0, closure := [], defaults := .none, kwdefaults := .none, pyModule := .none, code := .none } }
  | _ => default
noncomputable def tpO (l : Array Value) : Obj := { cls := .type "tuple", data := .seq l }
noncomputable def ffO (l : Array Value) : Obj := { cls := .none, data := .fields l }
noncomputable def o_3 (P : Params) : Obj := ⟨.type "dict", none, .dict #[dE P "__name__" 165 (.str "law_sj0182_01" 557), dE P "__doc__" 166 .none, dE P "__package__" 167 .none, dE P "__loader__" 168 (.builtin "__main__.__loader__#opaque"), dE P "__spec__" 169 .none, dE P "__annotations__" 170 (.ref 6), dE P "__builtins__" 171 (.ref 4), dE P "__file__" 173 (.str "/claim/cut.py" 172), dE P "__cached__" 174 .none, dE P "_wall" 193 (.ref 21), dE P "sends_hellos" 202 (.ref 28), dE P "LAST_SEQ" 206 (.int 2147483647 205), dE P "MAX_AGE" 208 (.int 3600 207), dE P "MAX_AGE_DIFF" 210 (.int 900 209), dE P "MIN_ARRIVAL" 212 (.int 1 211), dE P "newer_of" 222 (.ref 36), dE P "aged_head" 231 (.ref 44), dE P "key_of" 238 (.ref 51), dE P "aged" 248 (.ref 58), dE P "is_changed" 256 (.ref 65), dE P "Database" 392 (.ref 167), dE P "STATES" 403 (.ref 172), dE P "is_at_least" 411 (.ref 179), dE P "is_exchanging" 418 (.ref 186), dE P "EXTERNAL" 422 (.int 5 421), dE P "GREATEST_KIND" 424 (.int 5 423), dE P "barred" 432 (.ref 193), dE P "verdict" 444 (.ref 200), dE P "is_reached" 455 (.ref 207), dE P "met_request" 465 (.ref 214), dE P "owe_all" 476 (.ref 221), dE P "goes_back" 484 (.ref 228), dE P "flooded" 498 (.ref 235), dE P "sent" 506 (.ref 242), dE P "answer_by" 515 (.ref 249), dE P "is_settled" 524 (.ref 256), dE P "forget_owed" 534 (.ref 263), dE P "is_talking" 543 (.ref 270), dE P "sent_anew" 556 (.ref 277), dE P "_law_keys" 565 (.ref 280), dE P "_law_drawn" 573 (.ref 287), dE P "_law_row" 581 (.ref 294), dE P "_law_net" 594 (.ref 301), dE P "_law_sent" 605 (.ref 308), dE P "_law_told" 616 (.ref 315), dE P "_law_row_came" 636 (.ref 322), dE P "_law_come" 651 (.ref 329), dE P "_law_deed" 665 (.ref 336), dE P "_law_state" 682 (.ref 343), dE P "_law_step_right" 698 (.ref 350), dE P "law" 713 (.ref 357)] 51, #[]⟩
noncomputable def o_11 (_ : Params) : Obj := tpO #[]
noncomputable def o_12 (_ : Params) : Obj := ffO #[.int 1 0, .int 0 0, .ref 20, .int 5 0, .int 0 0, .ref 27, .int 12 0, .int 0 0, .ref 35, .int 22 0, .int 0 0, .ref 43, .int 24 0, .int 0 0, .ref 50, .int 27 0, .int 0 0, .ref 57, .int 29 0, .int 0 0, .ref 64, .int 35 0, .int 0 0, .ref 71, .int 88 0, .int 0 0, .ref 178, .int 90 0, .int 0 0, .ref 185, .int 95 0, .int 0 0, .ref 192, .int 99 0, .int 0 0, .ref 199, .int 118 0, .int 0 0, .ref 206, .int 122 0, .int 0 0, .ref 213, .int 131 0, .int 0 0, .ref 220, .int 138 0, .int 0 0, .ref 227, .int 140 0, .int 0 0, .ref 234, .int 150 0, .int 0 0, .ref 241, .int 152 0, .int 0 0, .ref 248, .int 160 0, .int 0 0, .ref 255, .int 168 0, .int 0 0, .ref 262, .int 172 0, .int 0 0, .ref 269, .int 178 0, .int 0 0, .ref 276, .int 186 0, .int 0 0, .ref 286, .int 191 0, .int 0 0, .ref 293, .int 193 0, .int 0 0, .ref 300, .int 205 0, .int 0 0, .ref 307, .int 208 0, .int 0 0, .ref 314, .int 215 0, .int 0 0, .ref 321, .int 236 0, .int 0 0, .ref 328, .int 246 0, .int 0 0, .ref 335, .int 259 0, .int 0 0, .ref 342, .int 271 0, .int 0 0, .ref 349, .int 283 0, .int 0 0, .ref 356]
noncomputable def o_13 (_ : Params) : Obj := Obj.mk (.type "code") none (Data.fields #[.str "<module>" 182, .str "<module>" 183, .str "/claim/cut.py" 184, .int 1 0, .int 0 0, .int 0 0, .int 0 0, .int 0 0, .ref 11, .bool false, .int 181 0, .ref 12, .none, .none, .none, .none, .int 185 0, .int 1 0, .str "/claim/cut.py" 186]) #[]
noncomputable def o_14 (_ : Params) : Obj := Obj.mk (.type "frame") none Data.plain #[some (.ref 13), some (.ref 3), some (.ref 3), none, some (.str "__main__" 164), none, some (.ref 0)]
noncomputable def o_15 (_ : Params) : Obj := tpO #[]
noncomputable def o_16 (_ : Params) : Obj := ffO #[]
noncomputable def o_17 (_ : Params) : Obj := tpO #[.str "k" 190]
noncomputable def o_18 (_ : Params) : Obj := tpO #[]
noncomputable def o_19 (_ : Params) : Obj := fnT (stAt 0) "_wall"
noncomputable def o_20 (_ : Params) : Obj := cdO 20 "_wall" "_wall" 187 1 1 191
noncomputable def o_21 (_ : Params) : Obj := fnO (stAt 0) "_wall" .none "__main__" 164 20
noncomputable def o_22 (_ : Params) : Obj := tpO #[]
noncomputable def o_23 (_ : Params) : Obj := ffO #[]
noncomputable def o_24 (_ : Params) : Obj := tpO #[.str "state" 199]
noncomputable def o_25 (_ : Params) : Obj := tpO #[]
noncomputable def o_26 (_ : Params) : Obj := fnT (stAt 2) "sends_hellos"
noncomputable def o_27 (_ : Params) : Obj := cdO 27 "sends_hellos" "sends_hellos" 196 5 1 200
noncomputable def o_28 (_ : Params) : Obj := fnO (stAt 2) "sends_hellos" .none "routeloom.istate" 194 27
noncomputable def o_29 (_ : Params) : Obj := tpO #[.int 3600 207, .int 900 209]
noncomputable def o_30 (_ : Params) : Obj := tpO #[]
noncomputable def o_31 (_ : Params) : Obj := ffO #[]
noncomputable def o_32 (_ : Params) : Obj := tpO #[.str "one" 216, .str "other" 217, .str "max_age" 218, .str "max_diff" 219]
noncomputable def o_33 (_ : Params) : Obj := tpO #[]
noncomputable def o_34 (_ : Params) : Obj := fnT (stAt 8) "newer_of"
noncomputable def o_35 (_ : Params) : Obj := cdO 35 "newer_of" "newer_of" 213 12 4 220
noncomputable def o_36 (_ : Params) : Obj := fnO (stAt 8) "newer_of" (.ref 29) "routeloom.seqs" 203 35
noncomputable def o_37 (_ : Params) : Obj := tpO #[.int 3600 207]
noncomputable def o_38 (_ : Params) : Obj := tpO #[]
noncomputable def o_39 (_ : Params) : Obj := ffO #[]
noncomputable def o_40 (_ : Params) : Obj := tpO #[.str "head" 226, .str "seconds" 227, .str "max_age" 228]
noncomputable def o_41 (_ : Params) : Obj := tpO #[]
noncomputable def o_42 (_ : Params) : Obj := fnT (stAt 9) "aged_head"
noncomputable def o_43 (_ : Params) : Obj := cdO 43 "aged_head" "aged_head" 223 22 3 229
noncomputable def o_44 (_ : Params) : Obj := fnO (stAt 9) "aged_head" (.ref 37) "routeloom.seqs" 203 43
noncomputable def o_45 (_ : Params) : Obj := tpO #[]
noncomputable def o_46 (_ : Params) : Obj := ffO #[]
noncomputable def o_47 (_ : Params) : Obj := tpO #[.str "head" 235]
noncomputable def o_48 (_ : Params) : Obj := tpO #[]
noncomputable def o_49 (_ : Params) : Obj := fnT (stAt 10) "key_of"
noncomputable def o_50 (_ : Params) : Obj := cdO 50 "key_of" "key_of" 232 24 1 236
noncomputable def o_51 (_ : Params) : Obj := fnO (stAt 10) "key_of" .none "routeloom.seqs" 203 50
noncomputable def o_52 (_ : Params) : Obj := tpO #[]
noncomputable def o_53 (_ : Params) : Obj := ffO #[]
noncomputable def o_54 (_ : Params) : Obj := tpO #[.str "lsa" 244, .str "seconds" 245]
noncomputable def o_55 (_ : Params) : Obj := tpO #[]
noncomputable def o_56 (_ : Params) : Obj := fnT (stAt 12) "aged"
noncomputable def o_57 (_ : Params) : Obj := cdO 57 "aged" "aged" 241 27 2 246
noncomputable def o_58 (_ : Params) : Obj := fnO (stAt 12) "aged" .none "routeloom.lsdb" 239 57
noncomputable def o_59 (_ : Params) : Obj := tpO #[]
noncomputable def o_60 (_ : Params) : Obj := ffO #[]
noncomputable def o_61 (_ : Params) : Obj := tpO #[.str "old" 252, .str "new" 253]
noncomputable def o_62 (_ : Params) : Obj := tpO #[]
noncomputable def o_63 (_ : Params) : Obj := fnT (stAt 13) "is_changed"
noncomputable def o_64 (_ : Params) : Obj := cdO 64 "is_changed" "is_changed" 249 29 2 254
noncomputable def o_65 (_ : Params) : Obj := fnO (stAt 13) "is_changed" .none "routeloom.lsdb" 239 64
noncomputable def o_66 (_ : Params) : Obj := tpO #[]
noncomputable def o_67 (_ : Params) : Obj := Obj.mk (.type "builtin_function_or_method") none (Data.fields #[.builtin "type.__prepare__", .type "type"]) #[]
noncomputable def o_68 (P : Params) : Obj := ⟨.type "dict", none, .dict #[dE P "__module__" 264 (.str "routeloom.lsdb" 239), dE P "__qualname__" 266 (.str "Database" 265), dE P "__firstlineno__" 268 (.int 35 267), dE P "__init__" 275 (.ref 79), dE P "put" 286 (.ref 86), dE P "look" 297 (.ref 93), dE P "since" 305 (.ref 100), dE P "drop" 313 (.ref 107), dE P "keys" 320 (.ref 114), dE P "all_rows" 328 (.ref 121), dE P "summary" 336 (.ref 128), dE P "ended" 344 (.ref 135), dE P "to_refresh" 353 (.ref 142), dE P "end" 364 (.ref 149), dE P "swept" 374 (.ref 156), dE P "next_time" 383 (.ref 164), dE P "__static_attributes__" 385 (.ref 165)] 17, #[]⟩
noncomputable def o_69 (_ : Params) : Obj := tpO #[]
noncomputable def o_70 (_ : Params) : Obj := ffO #[.int 37 0, .int 4 0, .ref 78, .int 40 0, .int 4 0, .ref 85, .int 46 0, .int 4 0, .ref 92, .int 52 0, .int 4 0, .ref 99, .int 55 0, .int 4 0, .ref 106, .int 58 0, .int 4 0, .ref 113, .int 61 0, .int 4 0, .ref 120, .int 64 0, .int 4 0, .ref 127, .int 67 0, .int 4 0, .ref 134, .int 70 0, .int 4 0, .ref 141, .int 73 0, .int 4 0, .ref 148, .int 81 0, .int 4 0, .ref 155, .int 84 0, .int 4 0, .ref 163]
noncomputable def o_71 (_ : Params) : Obj := Obj.mk (.type "code") none (Data.fields #[.str "Database" 259, .str "Database" 260, .str "/claim/cut.py" 261, .int 35 0, .int 0 0, .int 0 0, .int 0 0, .int 0 0, .ref 69, .bool false, .int 181 0, .ref 70, .none, .none, .none, .none, .int 262 0, .int 35 0, .str "/claim/cut.py" 263]) #[]
noncomputable def o_72 (_ : Params) : Obj := Obj.mk (.type "frame") none Data.plain #[some (.ref 71), some (.ref 3), some (.ref 68), none, some (.str "routeloom.lsdb" 239), none, some (.ref 0)]
noncomputable def o_73 (_ : Params) : Obj := tpO #[]
noncomputable def o_74 (_ : Params) : Obj := ffO #[]
noncomputable def o_75 (_ : Params) : Obj := tpO #[.str "self" 272]
noncomputable def o_76 (_ : Params) : Obj := tpO #[]
noncomputable def o_77 (_ : Params) : Obj := fnT (methAt 0) "Database.__init__"
noncomputable def o_78 (_ : Params) : Obj := cdO 78 "__init__" "Database.__init__" 269 37 1 273
noncomputable def o_79 (_ : Params) : Obj := fnO (methAt 0) "Database.__init__" .none "routeloom.lsdb" 239 78
noncomputable def o_80 (_ : Params) : Obj := tpO #[]
noncomputable def o_81 (_ : Params) : Obj := ffO #[]
noncomputable def o_82 (_ : Params) : Obj := tpO #[.str "self" 279, .str "lsa" 280, .str "now" 281, .str "key" 282, .str "old" 283]
noncomputable def o_83 (_ : Params) : Obj := tpO #[]
noncomputable def o_84 (_ : Params) : Obj := fnT (methAt 1) "Database.put"
noncomputable def o_85 (_ : Params) : Obj := cdO 85 "put" "Database.put" 276 40 3 284
noncomputable def o_86 (_ : Params) : Obj := fnO (methAt 1) "Database.put" .none "routeloom.lsdb" 239 85
noncomputable def o_87 (_ : Params) : Obj := tpO #[]
noncomputable def o_88 (_ : Params) : Obj := ffO #[]
noncomputable def o_89 (_ : Params) : Obj := tpO #[.str "self" 290, .str "key" 291, .str "now" 292, .str "lsa" 293, .str "since" 294]
noncomputable def o_90 (_ : Params) : Obj := tpO #[]
noncomputable def o_91 (_ : Params) : Obj := fnT (methAt 2) "Database.look"
noncomputable def o_92 (_ : Params) : Obj := cdO 92 "look" "Database.look" 287 46 3 295
noncomputable def o_93 (_ : Params) : Obj := fnO (methAt 2) "Database.look" .none "routeloom.lsdb" 239 92
noncomputable def o_94 (_ : Params) : Obj := tpO #[]
noncomputable def o_95 (_ : Params) : Obj := ffO #[]
noncomputable def o_96 (_ : Params) : Obj := tpO #[.str "self" 301, .str "key" 302]
noncomputable def o_97 (_ : Params) : Obj := tpO #[]
noncomputable def o_98 (_ : Params) : Obj := fnT (methAt 3) "Database.since"
noncomputable def o_99 (_ : Params) : Obj := cdO 99 "since" "Database.since" 298 52 2 303
noncomputable def o_100 (_ : Params) : Obj := fnO (methAt 3) "Database.since" .none "routeloom.lsdb" 239 99
noncomputable def o_101 (_ : Params) : Obj := tpO #[]
noncomputable def o_102 (_ : Params) : Obj := ffO #[]
noncomputable def o_103 (_ : Params) : Obj := tpO #[.str "self" 309, .str "key" 310]
noncomputable def o_104 (_ : Params) : Obj := tpO #[]
noncomputable def o_105 (_ : Params) : Obj := fnT (methAt 4) "Database.drop"
noncomputable def o_106 (_ : Params) : Obj := cdO 106 "drop" "Database.drop" 306 55 2 311
noncomputable def o_107 (_ : Params) : Obj := fnO (methAt 4) "Database.drop" .none "routeloom.lsdb" 239 106
noncomputable def o_108 (_ : Params) : Obj := tpO #[]
noncomputable def o_109 (_ : Params) : Obj := ffO #[]
noncomputable def o_110 (_ : Params) : Obj := tpO #[.str "self" 317]
noncomputable def o_111 (_ : Params) : Obj := tpO #[]
noncomputable def o_112 (_ : Params) : Obj := fnT (methAt 5) "Database.keys"
noncomputable def o_113 (_ : Params) : Obj := cdO 113 "keys" "Database.keys" 314 58 1 318
noncomputable def o_114 (_ : Params) : Obj := fnO (methAt 5) "Database.keys" .none "routeloom.lsdb" 239 113
noncomputable def o_115 (_ : Params) : Obj := tpO #[]
noncomputable def o_116 (_ : Params) : Obj := ffO #[]
noncomputable def o_117 (_ : Params) : Obj := tpO #[.str "self" 324, .str "now" 325]
noncomputable def o_118 (_ : Params) : Obj := tpO #[]
noncomputable def o_119 (_ : Params) : Obj := fnT (methAt 6) "Database.all_rows"
noncomputable def o_120 (_ : Params) : Obj := cdO 120 "all_rows" "Database.all_rows" 321 61 2 326
noncomputable def o_121 (_ : Params) : Obj := fnO (methAt 6) "Database.all_rows" .none "routeloom.lsdb" 239 120
noncomputable def o_122 (_ : Params) : Obj := tpO #[]
noncomputable def o_123 (_ : Params) : Obj := ffO #[]
noncomputable def o_124 (_ : Params) : Obj := tpO #[.str "self" 332, .str "now" 333]
noncomputable def o_125 (_ : Params) : Obj := tpO #[]
noncomputable def o_126 (_ : Params) : Obj := fnT (methAt 7) "Database.summary"
noncomputable def o_127 (_ : Params) : Obj := cdO 127 "summary" "Database.summary" 329 64 2 334
noncomputable def o_128 (_ : Params) : Obj := fnO (methAt 7) "Database.summary" .none "routeloom.lsdb" 239 127
noncomputable def o_129 (_ : Params) : Obj := tpO #[]
noncomputable def o_130 (_ : Params) : Obj := ffO #[]
noncomputable def o_131 (_ : Params) : Obj := tpO #[.str "self" 340, .str "now" 341]
noncomputable def o_132 (_ : Params) : Obj := tpO #[]
noncomputable def o_133 (_ : Params) : Obj := fnT (methAt 8) "Database.ended"
noncomputable def o_134 (_ : Params) : Obj := cdO 134 "ended" "Database.ended" 337 67 2 342
noncomputable def o_135 (_ : Params) : Obj := fnO (methAt 8) "Database.ended" .none "routeloom.lsdb" 239 134
noncomputable def o_136 (_ : Params) : Obj := tpO #[]
noncomputable def o_137 (_ : Params) : Obj := ffO #[]
noncomputable def o_138 (_ : Params) : Obj := tpO #[.str "self" 348, .str "router" 349, .str "now" 350]
noncomputable def o_139 (_ : Params) : Obj := tpO #[]
noncomputable def o_140 (_ : Params) : Obj := fnT (methAt 9) "Database.to_refresh"
noncomputable def o_141 (_ : Params) : Obj := cdO 141 "to_refresh" "Database.to_refresh" 345 70 3 351
noncomputable def o_142 (_ : Params) : Obj := fnO (methAt 9) "Database.to_refresh" .none "routeloom.lsdb" 239 141
noncomputable def o_143 (_ : Params) : Obj := tpO #[]
noncomputable def o_144 (_ : Params) : Obj := ffO #[]
noncomputable def o_145 (_ : Params) : Obj := tpO #[.str "self" 357, .str "key" 358, .str "now" 359, .str "lsa" 360, .str "found" 361]
noncomputable def o_146 (_ : Params) : Obj := tpO #[]
noncomputable def o_147 (_ : Params) : Obj := fnT (methAt 10) "Database.end"
noncomputable def o_148 (_ : Params) : Obj := cdO 148 "end" "Database.end" 354 73 3 362
noncomputable def o_149 (_ : Params) : Obj := fnO (methAt 10) "Database.end" .none "routeloom.lsdb" 239 148
noncomputable def o_150 (_ : Params) : Obj := tpO #[]
noncomputable def o_151 (_ : Params) : Obj := ffO #[]
noncomputable def o_152 (_ : Params) : Obj := tpO #[.str "self" 368, .str "now" 369, .str "owing" 370, .str "talking" 371]
noncomputable def o_153 (_ : Params) : Obj := tpO #[]
noncomputable def o_154 (_ : Params) : Obj := fnT (methAt 11) "Database.swept"
noncomputable def o_155 (_ : Params) : Obj := cdO 155 "swept" "Database.swept" 365 81 4 372
noncomputable def o_156 (_ : Params) : Obj := fnO (methAt 11) "Database.swept" .none "routeloom.lsdb" 239 155
noncomputable def o_157 (_ : Params) : Obj := tpO #[.none]
noncomputable def o_158 (_ : Params) : Obj := tpO #[]
noncomputable def o_159 (_ : Params) : Obj := ffO #[]
noncomputable def o_160 (_ : Params) : Obj := tpO #[.str "self" 378, .str "router" 379, .str "now" 380]
noncomputable def o_161 (_ : Params) : Obj := tpO #[]
noncomputable def o_162 (_ : Params) : Obj := fnT (methAt 12) "Database.next_time"
noncomputable def o_163 (_ : Params) : Obj := cdO 163 "next_time" "Database.next_time" 375 84 3 381
noncomputable def o_164 (_ : Params) : Obj := fnO (methAt 12) "Database.next_time" (.ref 157) "routeloom.lsdb" 239 163
noncomputable def o_165 (_ : Params) : Obj := tpO #[.str "rows" 384]
noncomputable def o_166 (P : Params) : Obj := ⟨.type "dict", none, .dict #[dE P "__module__" 264 (.str "routeloom.lsdb" 239), dE P "__firstlineno__" 268 (.int 35 267), dE P "__init__" 275 (.ref 79), dE P "put" 286 (.ref 86), dE P "look" 297 (.ref 93), dE P "since" 305 (.ref 100), dE P "drop" 313 (.ref 107), dE P "keys" 320 (.ref 114), dE P "all_rows" 328 (.ref 121), dE P "summary" 336 (.ref 128), dE P "ended" 344 (.ref 135), dE P "to_refresh" 353 (.ref 142), dE P "end" 364 (.ref 149), dE P "swept" 374 (.ref 156), dE P "next_time" 383 (.ref 164), dE P "__static_attributes__" 385 (.ref 165), dE P "__dict__" 387 (.ref 168), dE P "__weakref__" 389 (.ref 169), dE P "__doc__" 390 .none] 4, #[]⟩
noncomputable def o_167 (_ : Params) : Obj := Obj.mk (.type "type") none (Data.cls (ClassData.mk "Database" [.type "object"] [.ref 167, .type "object"] 166 "Database" true [] [] false none false)) #[none, none, some (.str "Database" 257), some (.str "Database" 265), some (.builtin "object.__new__"), some (.bool true)]
noncomputable def o_168 (_ : Params) : Obj := Obj.mk (.type "getset_descriptor") none (Data.fields #[.str "__dict__" 386, .ref 167, .builtin "function.__dict__", .builtin "function.__dict__#set"]) #[]
noncomputable def o_169 (_ : Params) : Obj := Obj.mk (.type "getset_descriptor") none (Data.fields #[.str "__weakref__" 388, .ref 167, .builtin "ExceptionGroup.__weakref__", .none]) #[]
noncomputable def o_170 (_ : Params) : Obj := Obj.mk (.type "super") none (Data.fields #[.ref 167, .ref 167, .ref 167]) #[]
noncomputable def o_171 (_ : Params) : Obj := Obj.mk (.type "builtin_function_or_method") none (Data.fields #[.builtin "object.__init_subclass__", .ref 167]) #[]
noncomputable def o_172 (_ : Params) : Obj := tpO #[.str "down" 395, .str "attempt" 396, .str "init" 397, .str "two_way" 398, .str "exstart" 399, .str "exchange" 400, .str "loading" 401, .str "full" 402]
noncomputable def o_173 (_ : Params) : Obj := tpO #[]
noncomputable def o_174 (_ : Params) : Obj := ffO #[]
noncomputable def o_175 (_ : Params) : Obj := tpO #[.str "state" 407, .str "floor" 408]
noncomputable def o_176 (_ : Params) : Obj := tpO #[]
noncomputable def o_177 (_ : Params) : Obj := fnT (stAt 17) "is_at_least"
noncomputable def o_178 (_ : Params) : Obj := cdO 178 "is_at_least" "is_at_least" 404 88 2 409
noncomputable def o_179 (_ : Params) : Obj := fnO (stAt 17) "is_at_least" .none "routeloom.nstate" 393 178
noncomputable def o_180 (_ : Params) : Obj := tpO #[]
noncomputable def o_181 (_ : Params) : Obj := ffO #[]
noncomputable def o_182 (_ : Params) : Obj := tpO #[.str "state" 415]
noncomputable def o_183 (_ : Params) : Obj := tpO #[]
noncomputable def o_184 (_ : Params) : Obj := fnT (stAt 18) "is_exchanging"
noncomputable def o_185 (_ : Params) : Obj := cdO 185 "is_exchanging" "is_exchanging" 412 90 1 416
noncomputable def o_186 (_ : Params) : Obj := fnO (stAt 18) "is_exchanging" .none "routeloom.nstate" 393 185
noncomputable def o_187 (_ : Params) : Obj := tpO #[]
noncomputable def o_188 (_ : Params) : Obj := ffO #[]
noncomputable def o_189 (_ : Params) : Obj := tpO #[.str "head" 428, .str "is_stub" 429]
noncomputable def o_190 (_ : Params) : Obj := tpO #[]
noncomputable def o_191 (_ : Params) : Obj := fnT (stAt 22) "barred"
noncomputable def o_192 (_ : Params) : Obj := cdO 192 "barred" "barred" 425 95 2 430
noncomputable def o_193 (_ : Params) : Obj := fnO (stAt 22) "barred" .none "routeloom.receive" 419 192
noncomputable def o_194 (_ : Params) : Obj := tpO #[]
noncomputable def o_195 (_ : Params) : Obj := ffO #[]
noncomputable def o_196 (_ : Params) : Obj := tpO #[.str "head" 436, .str "own" 437, .str "now" 438, .str "facts" 439, .str "why" 440, .str "order" 441]
noncomputable def o_197 (_ : Params) : Obj := tpO #[]
noncomputable def o_198 (_ : Params) : Obj := fnT (stAt 23) "verdict"
noncomputable def o_199 (_ : Params) : Obj := cdO 199 "verdict" "verdict" 433 99 4 442
noncomputable def o_200 (_ : Params) : Obj := fnO (stAt 23) "verdict" .none "routeloom.receive" 419 199
noncomputable def o_201 (_ : Params) : Obj := tpO #[]
noncomputable def o_202 (_ : Params) : Obj := ffO #[]
noncomputable def o_203 (_ : Params) : Obj := tpO #[.str "interface" 450, .str "kind" 451, .str "area" 452]
noncomputable def o_204 (_ : Params) : Obj := tpO #[]
noncomputable def o_205 (_ : Params) : Obj := fnT (stAt 25) "is_reached"
noncomputable def o_206 (_ : Params) : Obj := cdO 206 "is_reached" "is_reached" 447 118 3 453
noncomputable def o_207 (_ : Params) : Obj := fnO (stAt 25) "is_reached" .none "routeloom.flooding" 445 206
noncomputable def o_208 (_ : Params) : Obj := tpO #[]
noncomputable def o_209 (_ : Params) : Obj := ffO #[]
noncomputable def o_210 (_ : Params) : Obj := tpO #[.str "neighbour" 459, .str "head" 460, .str "key" 461, .str "order" 462]
noncomputable def o_211 (_ : Params) : Obj := tpO #[]
noncomputable def o_212 (_ : Params) : Obj := fnT (stAt 26) "met_request"
noncomputable def o_213 (_ : Params) : Obj := cdO 213 "met_request" "met_request" 456 122 2 463
noncomputable def o_214 (_ : Params) : Obj := fnO (stAt 26) "met_request" .none "routeloom.flooding" 445 213
noncomputable def o_215 (_ : Params) : Obj := tpO #[]
noncomputable def o_216 (_ : Params) : Obj := ffO #[]
noncomputable def o_217 (_ : Params) : Obj := tpO #[.str "interface" 469, .str "lsa" 470, .str "sender" 471, .str "found" 472, .str "neighbour" 473]
noncomputable def o_218 (_ : Params) : Obj := tpO #[]
noncomputable def o_219 (_ : Params) : Obj := fnT (stAt 27) "owe_all"
noncomputable def o_220 (_ : Params) : Obj := cdO 220 "owe_all" "owe_all" 466 131 3 474
noncomputable def o_221 (_ : Params) : Obj := fnO (stAt 27) "owe_all" .none "routeloom.flooding" 445 220
noncomputable def o_222 (_ : Params) : Obj := tpO #[]
noncomputable def o_223 (_ : Params) : Obj := ffO #[]
noncomputable def o_224 (_ : Params) : Obj := tpO #[.str "interface" 480, .str "sender" 481]
noncomputable def o_225 (_ : Params) : Obj := tpO #[]
noncomputable def o_226 (_ : Params) : Obj := fnT (stAt 28) "goes_back"
noncomputable def o_227 (_ : Params) : Obj := cdO 227 "goes_back" "goes_back" 477 138 2 482
noncomputable def o_228 (_ : Params) : Obj := fnO (stAt 28) "goes_back" .none "routeloom.flooding" 445 227
noncomputable def o_229 (_ : Params) : Obj := tpO #[]
noncomputable def o_230 (_ : Params) : Obj := ffO #[]
noncomputable def o_231 (_ : Params) : Obj := tpO #[.str "lsa" 488, .str "area" 489, .str "interfaces" 490, .str "came" 491, .str "found" 492, .str "interface" 493, .str "is_same" 494, .str "is_owing" 495]
noncomputable def o_232 (_ : Params) : Obj := tpO #[]
noncomputable def o_233 (_ : Params) : Obj := fnT (stAt 29) "flooded"
noncomputable def o_234 (_ : Params) : Obj := cdO 234 "flooded" "flooded" 485 140 4 496
noncomputable def o_235 (_ : Params) : Obj := fnO (stAt 29) "flooded" .none "routeloom.flooding" 445 234
noncomputable def o_236 (_ : Params) : Obj := tpO #[]
noncomputable def o_237 (_ : Params) : Obj := ffO #[]
noncomputable def o_238 (_ : Params) : Obj := tpO #[.str "lsa" 502, .str "interface" 503]
noncomputable def o_239 (_ : Params) : Obj := tpO #[]
noncomputable def o_240 (_ : Params) : Obj := fnT (stAt 30) "sent"
noncomputable def o_241 (_ : Params) : Obj := cdO 241 "sent" "sent" 499 150 2 504
noncomputable def o_242 (_ : Params) : Obj := fnO (stAt 30) "sent" .none "routeloom.flooding" 445 241
noncomputable def o_243 (_ : Params) : Obj := tpO #[]
noncomputable def o_244 (_ : Params) : Obj := ffO #[]
noncomputable def o_245 (_ : Params) : Obj := tpO #[.str "event" 510, .str "interface" 511, .str "sender" 512]
noncomputable def o_246 (_ : Params) : Obj := tpO #[]
noncomputable def o_247 (_ : Params) : Obj := fnT (stAt 31) "answer_by"
noncomputable def o_248 (_ : Params) : Obj := cdO 248 "answer_by" "answer_by" 507 152 3 513
noncomputable def o_249 (_ : Params) : Obj := fnO (stAt 31) "answer_by" .none "routeloom.flooding" 445 248
noncomputable def o_250 (_ : Params) : Obj := tpO #[]
noncomputable def o_251 (_ : Params) : Obj := ffO #[]
noncomputable def o_252 (_ : Params) : Obj := tpO #[.str "neighbour" 519, .str "head" 520, .str "key" 521]
noncomputable def o_253 (_ : Params) : Obj := tpO #[]
noncomputable def o_254 (_ : Params) : Obj := fnT (stAt 32) "is_settled"
noncomputable def o_255 (_ : Params) : Obj := cdO 255 "is_settled" "is_settled" 516 160 2 522
noncomputable def o_256 (_ : Params) : Obj := fnO (stAt 32) "is_settled" .none "routeloom.flooding" 445 255
noncomputable def o_257 (_ : Params) : Obj := tpO #[]
noncomputable def o_258 (_ : Params) : Obj := ffO #[]
noncomputable def o_259 (_ : Params) : Obj := tpO #[.str "interfaces" 528, .str "key" 529, .str "interface" 530, .str "neighbour" 531]
noncomputable def o_260 (_ : Params) : Obj := tpO #[]
noncomputable def o_261 (_ : Params) : Obj := fnT (stAt 33) "forget_owed"
noncomputable def o_262 (_ : Params) : Obj := cdO 262 "forget_owed" "forget_owed" 525 168 2 532
noncomputable def o_263 (_ : Params) : Obj := fnO (stAt 33) "forget_owed" .none "routeloom.flooding" 445 262
noncomputable def o_264 (_ : Params) : Obj := tpO #[]
noncomputable def o_265 (_ : Params) : Obj := ffO #[]
noncomputable def o_266 (_ : Params) : Obj := tpO #[.str "interfaces" 538, .str "interface" 539, .str "neighbour" 540]
noncomputable def o_267 (_ : Params) : Obj := tpO #[]
noncomputable def o_268 (_ : Params) : Obj := fnT (stAt 34) "is_talking"
noncomputable def o_269 (_ : Params) : Obj := cdO 269 "is_talking" "is_talking" 535 172 1 541
noncomputable def o_270 (_ : Params) : Obj := fnO (stAt 34) "is_talking" .none "routeloom.flooding" 445 269
noncomputable def o_271 (_ : Params) : Obj := tpO #[]
noncomputable def o_272 (_ : Params) : Obj := ffO #[]
noncomputable def o_273 (_ : Params) : Obj := tpO #[.str "neighbour" 547, .str "database" 548, .str "now" 549, .str "most" 550, .str "found" 551, .str "key" 552, .str "here" 553]
noncomputable def o_274 (_ : Params) : Obj := tpO #[]
noncomputable def o_275 (_ : Params) : Obj := fnT (stAt 35) "sent_anew"
noncomputable def o_276 (_ : Params) : Obj := cdO 276 "sent_anew" "sent_anew" 544 178 4 554
noncomputable def o_277 (_ : Params) : Obj := fnO (stAt 35) "sent_anew" .none "routeloom.flooding" 445 276
noncomputable def o_278 (_ : Params) : Obj := tpO #[.int 1 559, .int 7 560, .int 1 561]
noncomputable def o_279 (_ : Params) : Obj := tpO #[.int 1 562, .int 7 563, .int 2 564]
noncomputable def o_280 (_ : Params) : Obj := tpO #[.ref 278, .ref 279]
noncomputable def o_281 (_ : Params) : Obj := tpO #[]
noncomputable def o_282 (_ : Params) : Obj := ffO #[]
noncomputable def o_283 (_ : Params) : Obj := tpO #[.str "box" 569, .str "many" 570]
noncomputable def o_284 (_ : Params) : Obj := tpO #[]
noncomputable def o_285 (_ : Params) : Obj := fnT (stAt 38) "_law_drawn"
noncomputable def o_286 (_ : Params) : Obj := cdO 286 "_law_drawn" "_law_drawn" 566 186 2 571
noncomputable def o_287 (_ : Params) : Obj := fnO (stAt 38) "_law_drawn" .none "law_sj0182_01" 557 286
noncomputable def o_288 (_ : Params) : Obj := tpO #[]
noncomputable def o_289 (_ : Params) : Obj := ffO #[]
noncomputable def o_290 (_ : Params) : Obj := tpO #[.str "spot" 577, .str "number" 578]
noncomputable def o_291 (_ : Params) : Obj := tpO #[]
noncomputable def o_292 (_ : Params) : Obj := fnT (stAt 39) "_law_row"
noncomputable def o_293 (_ : Params) : Obj := cdO 293 "_law_row" "_law_row" 574 191 2 579
noncomputable def o_294 (_ : Params) : Obj := fnO (stAt 39) "_law_row" .none "law_sj0182_01" 557 293
noncomputable def o_295 (_ : Params) : Obj := tpO #[]
noncomputable def o_296 (_ : Params) : Obj := ffO #[]
noncomputable def o_297 (_ : Params) : Obj := tpO #[.str "is_ring" 585, .str "net" 586, .str "at" 587, .str "node" 588, .str "other" 589, .str "mate" 590, .str "face" 591]
noncomputable def o_298 (_ : Params) : Obj := tpO #[]
noncomputable def o_299 (_ : Params) : Obj := fnT (stAt 40) "_law_net"
noncomputable def o_300 (_ : Params) : Obj := cdO 300 "_law_net" "_law_net" 582 193 1 592
noncomputable def o_301 (_ : Params) : Obj := fnO (stAt 40) "_law_net" .none "law_sj0182_01" 557 300
noncomputable def o_302 (_ : Params) : Obj := tpO #[]
noncomputable def o_303 (_ : Params) : Obj := ffO #[]
noncomputable def o_304 (_ : Params) : Obj := tpO #[.str "net" 598, .str "at" 599, .str "numbers" 600, .str "lsa" 601, .str "number" 602]
noncomputable def o_305 (_ : Params) : Obj := tpO #[]
noncomputable def o_306 (_ : Params) : Obj := fnT (stAt 41) "_law_sent"
noncomputable def o_307 (_ : Params) : Obj := cdO 307 "_law_sent" "_law_sent" 595 205 4 603
noncomputable def o_308 (_ : Params) : Obj := fnO (stAt 41) "_law_sent" .none "law_sj0182_01" 557 307
noncomputable def o_309 (_ : Params) : Obj := tpO #[]
noncomputable def o_310 (_ : Params) : Obj := ffO #[]
noncomputable def o_311 (_ : Params) : Obj := tpO #[.str "net" 609, .str "spot" 610, .str "lsa" 611, .str "node" 612, .str "numbers" 613]
noncomputable def o_312 (_ : Params) : Obj := tpO #[]
noncomputable def o_313 (_ : Params) : Obj := fnT (stAt 42) "_law_told"
noncomputable def o_314 (_ : Params) : Obj := cdO 314 "_law_told" "_law_told" 606 208 2 614
noncomputable def o_315 (_ : Params) : Obj := fnO (stAt 42) "_law_told" .none "law_sj0182_01" 557 314
noncomputable def o_316 (_ : Params) : Obj := tpO #[]
noncomputable def o_317 (_ : Params) : Obj := ffO #[]
noncomputable def o_318 (_ : Params) : Obj := tpO #[.str "net" 620, .str "goal" 621, .str "source" 622, .str "lsa" 623, .str "node" 624, .str "key" 625, .str "face" 626, .str "here" 627, .str "mate" 628, .str "own" 629, .str "facts" 630, .str "told" 631, .str "event" 632, .str "numbers" 633]
noncomputable def o_319 (_ : Params) : Obj := tpO #[]
noncomputable def o_320 (_ : Params) : Obj := fnT (stAt 43) "_law_row_came"
noncomputable def o_321 (_ : Params) : Obj := cdO 321 "_law_row_came" "_law_row_came" 617 215 4 634
noncomputable def o_322 (_ : Params) : Obj := fnO (stAt 43) "_law_row_came" .none "law_sj0182_01" 557 321
noncomputable def o_323 (_ : Params) : Obj := tpO #[]
noncomputable def o_324 (_ : Params) : Obj := ffO #[]
noncomputable def o_325 (_ : Params) : Obj := tpO #[.str "net" 640, .str "pick" 641, .str "is_last" 642, .str "goal" 643, .str "source" 644, .str "sort" 645, .str "thing" 646, .str "node" 647, .str "head" 648]
noncomputable def o_326 (_ : Params) : Obj := tpO #[]
noncomputable def o_327 (_ : Params) : Obj := fnT (stAt 44) "_law_come"
noncomputable def o_328 (_ : Params) : Obj := cdO 328 "_law_come" "_law_come" 637 236 3 649
noncomputable def o_329 (_ : Params) : Obj := fnO (stAt 44) "_law_come" .none "law_sj0182_01" 557 328
noncomputable def o_330 (_ : Params) : Obj := tpO #[]
noncomputable def o_331 (_ : Params) : Obj := ffO #[]
noncomputable def o_332 (_ : Params) : Obj := tpO #[.str "net" 655, .str "form" 656, .str "pick" 657, .str "many" 658, .str "node" 659, .str "number" 660, .str "face" 661, .str "lsa" 662]
noncomputable def o_333 (_ : Params) : Obj := tpO #[]
noncomputable def o_334 (_ : Params) : Obj := fnT (stAt 45) "_law_deed"
noncomputable def o_335 (_ : Params) : Obj := cdO 335 "_law_deed" "_law_deed" 652 246 3 663
noncomputable def o_336 (_ : Params) : Obj := fnO (stAt 45) "_law_deed" .none "law_sj0182_01" 557 335
noncomputable def o_337 (_ : Params) : Obj := tpO #[]
noncomputable def o_338 (_ : Params) : Obj := ffO #[]
noncomputable def o_339 (_ : Params) : Obj := tpO #[.str "net" 669, .str "have" 670, .str "owed" 671, .str "at" 672, .str "node" 673, .str "spot" 674, .str "key" 675, .str "lsa" 676, .str "number" 677, .str "face" 678, .str "row" 679]
noncomputable def o_340 (_ : Params) : Obj := tpO #[]
noncomputable def o_341 (_ : Params) : Obj := fnT (stAt 46) "_law_state"
noncomputable def o_342 (_ : Params) : Obj := cdO 342 "_law_state" "_law_state" 666 259 1 680
noncomputable def o_343 (_ : Params) : Obj := fnO (stAt 46) "_law_state" .none "law_sj0182_01" 557 342
noncomputable def o_344 (_ : Params) : Obj := tpO #[]
noncomputable def o_345 (_ : Params) : Obj := ffO #[]
noncomputable def o_346 (_ : Params) : Obj := tpO #[.str "net" 686, .str "before" 687, .str "after" 688, .str "have" 689, .str "owed" 690, .str "at" 691, .str "spot" 692, .str "mate" 693, .str "noted" 694, .str "was" 695]
noncomputable def o_347 (_ : Params) : Obj := tpO #[]
noncomputable def o_348 (_ : Params) : Obj := fnT (stAt 47) "_law_step_right"
noncomputable def o_349 (_ : Params) : Obj := cdO 349 "_law_step_right" "_law_step_right" 683 271 3 696
noncomputable def o_350 (_ : Params) : Obj := fnO (stAt 47) "_law_step_right" .none "law_sj0182_01" 557 349
noncomputable def o_351 (_ : Params) : Obj := tpO #[]
noncomputable def o_352 (_ : Params) : Obj := ffO #[]
noncomputable def o_353 (_ : Params) : Obj := tpO #[.str "script" 702, .str "box" 703, .str "net" 704, .str "state" 705, .str "turn" 706, .str "later" 707, .str "form" 708, .str "pick" 709, .str "wait" 710]
noncomputable def o_354 (_ : Params) : Obj := tpO #[]
noncomputable def o_355 (_ : Params) : Obj := fnT (stAt 48) "law"
noncomputable def o_356 (_ : Params) : Obj := cdO 356 "law" "law" 699 283 1 711
noncomputable def o_357 (_ : Params) : Obj := fnO (stAt 48) "law" .none "law_sj0182_01" 557 356
noncomputable def i_11 (_ : Params) : Obj := tpO #[]
noncomputable def i_12 (_ : Params) : Obj := ffO #[]
noncomputable def t_0 (P : Params) : BT := (.node (boot_o_0 P) (.node (boot_o_1 P) (.node (boot_o_3 P) (.node (boot_o_7 P) .nil .nil) (.node (i_11 P) .nil .nil)) (.node (boot_o_5 P) (.node (boot_o_9 P) .nil .nil) (.node (o_13 P) .nil .nil))) (.node (boot_o_2 P) (.node (boot_o_4 P) (.node (boot_o_8 P) .nil .nil) (.node (i_12 P) .nil .nil)) (.node (boot_o_6 P) (.node (boot_o_10 P) .nil .nil) (.node (o_14 P) .nil .nil))))
noncomputable def t_1 (P : Params) : BT := (.node (boot_o_0 P) (.node (boot_o_1 P) (.node (o_3 P) (.node (boot_o_7 P) (.node (o_15 P) (.node (o_31 P) (.node (o_63 P) (.node (o_127 P) (.node (o_255 P) .nil .nil) .nil) (.node (o_191 P) (.node (o_319 P) .nil .nil) .nil)) (.node (o_95 P) (.node (o_159 P) (.node (o_287 P) .nil .nil) .nil) (.node (o_223 P) (.node (o_351 P) .nil .nil) .nil))) (.node (o_47 P) (.node (o_79 P) (.node (o_143 P) (.node (o_271 P) .nil .nil) .nil) (.node (o_207 P) (.node (o_335 P) .nil .nil) .nil)) (.node (o_111 P) (.node (o_175 P) (.node (o_303 P) .nil .nil) .nil) (.node (o_239 P) .nil .nil)))) (.node (o_23 P) (.node (o_39 P) (.node (o_71 P) (.node (o_135 P) (.node (o_263 P) .nil .nil) .nil) (.node (o_199 P) (.node (o_327 P) .nil .nil) .nil)) (.node (o_103 P) (.node (o_167 P) (.node (o_295 P) .nil .nil) .nil) (.node (o_231 P) .nil .nil))) (.node (o_55 P) (.node (o_87 P) (.node (o_151 P) (.node (o_279 P) .nil .nil) .nil) (.node (o_215 P) (.node (o_343 P) .nil .nil) .nil)) (.node (o_119 P) (.node (o_183 P) (.node (o_311 P) .nil .nil) .nil) (.node (o_247 P) .nil .nil))))) (.node (o_11 P) (.node (o_19 P) (.node (o_35 P) (.node (o_67 P) (.node (o_131 P) (.node (o_259 P) .nil .nil) .nil) (.node (o_195 P) (.node (o_323 P) .nil .nil) .nil)) (.node (o_99 P) (.node (o_163 P) (.node (o_291 P) .nil .nil) .nil) (.node (o_227 P) (.node (o_355 P) .nil .nil) .nil))) (.node (o_51 P) (.node (o_83 P) (.node (o_147 P) (.node (o_275 P) .nil .nil) .nil) (.node (o_211 P) (.node (o_339 P) .nil .nil) .nil)) (.node (o_115 P) (.node (o_179 P) (.node (o_307 P) .nil .nil) .nil) (.node (o_243 P) .nil .nil)))) (.node (o_27 P) (.node (o_43 P) (.node (o_75 P) (.node (o_139 P) (.node (o_267 P) .nil .nil) .nil) (.node (o_203 P) (.node (o_331 P) .nil .nil) .nil)) (.node (o_107 P) (.node (o_171 P) (.node (o_299 P) .nil .nil) .nil) (.node (o_235 P) .nil .nil))) (.node (o_59 P) (.node (o_91 P) (.node (o_155 P) (.node (o_283 P) .nil .nil) .nil) (.node (o_219 P) (.node (o_347 P) .nil .nil) .nil)) (.node (o_123 P) (.node (o_187 P) (.node (o_315 P) .nil .nil) .nil) (.node (o_251 P) .nil .nil)))))) (.node (boot_o_5 P) (.node (boot_o_9 P) (.node (o_17 P) (.node (o_33 P) (.node (o_65 P) (.node (o_129 P) (.node (o_257 P) .nil .nil) .nil) (.node (o_193 P) (.node (o_321 P) .nil .nil) .nil)) (.node (o_97 P) (.node (o_161 P) (.node (o_289 P) .nil .nil) .nil) (.node (o_225 P) (.node (o_353 P) .nil .nil) .nil))) (.node (o_49 P) (.node (o_81 P) (.node (o_145 P) (.node (o_273 P) .nil .nil) .nil) (.node (o_209 P) (.node (o_337 P) .nil .nil) .nil)) (.node (o_113 P) (.node (o_177 P) (.node (o_305 P) .nil .nil) .nil) (.node (o_241 P) .nil .nil)))) (.node (o_25 P) (.node (o_41 P) (.node (o_73 P) (.node (o_137 P) (.node (o_265 P) .nil .nil) .nil) (.node (o_201 P) (.node (o_329 P) .nil .nil) .nil)) (.node (o_105 P) (.node (o_169 P) (.node (o_297 P) .nil .nil) .nil) (.node (o_233 P) .nil .nil))) (.node (o_57 P) (.node (o_89 P) (.node (o_153 P) (.node (o_281 P) .nil .nil) .nil) (.node (o_217 P) (.node (o_345 P) .nil .nil) .nil)) (.node (o_121 P) (.node (o_185 P) (.node (o_313 P) .nil .nil) .nil) (.node (o_249 P) .nil .nil))))) (.node (o_13 P) (.node (o_21 P) (.node (o_37 P) (.node (o_69 P) (.node (o_133 P) (.node (o_261 P) .nil .nil) .nil) (.node (o_197 P) (.node (o_325 P) .nil .nil) .nil)) (.node (o_101 P) (.node (o_165 P) (.node (o_293 P) .nil .nil) .nil) (.node (o_229 P) (.node (o_357 P) .nil .nil) .nil))) (.node (o_53 P) (.node (o_85 P) (.node (o_149 P) (.node (o_277 P) .nil .nil) .nil) (.node (o_213 P) (.node (o_341 P) .nil .nil) .nil)) (.node (o_117 P) (.node (o_181 P) (.node (o_309 P) .nil .nil) .nil) (.node (o_245 P) .nil .nil)))) (.node (o_29 P) (.node (o_45 P) (.node (o_77 P) (.node (o_141 P) (.node (o_269 P) .nil .nil) .nil) (.node (o_205 P) (.node (o_333 P) .nil .nil) .nil)) (.node (o_109 P) (.node (o_173 P) (.node (o_301 P) .nil .nil) .nil) (.node (o_237 P) .nil .nil))) (.node (o_61 P) (.node (o_93 P) (.node (o_157 P) (.node (o_285 P) .nil .nil) .nil) (.node (o_221 P) (.node (o_349 P) .nil .nil) .nil)) (.node (o_125 P) (.node (o_189 P) (.node (o_317 P) .nil .nil) .nil) (.node (o_253 P) .nil .nil))))))) (.node (boot_o_2 P) (.node (boot_o_4 P) (.node (boot_o_8 P) (.node (o_16 P) (.node (o_32 P) (.node (o_64 P) (.node (o_128 P) (.node (o_256 P) .nil .nil) .nil) (.node (o_192 P) (.node (o_320 P) .nil .nil) .nil)) (.node (o_96 P) (.node (o_160 P) (.node (o_288 P) .nil .nil) .nil) (.node (o_224 P) (.node (o_352 P) .nil .nil) .nil))) (.node (o_48 P) (.node (o_80 P) (.node (o_144 P) (.node (o_272 P) .nil .nil) .nil) (.node (o_208 P) (.node (o_336 P) .nil .nil) .nil)) (.node (o_112 P) (.node (o_176 P) (.node (o_304 P) .nil .nil) .nil) (.node (o_240 P) .nil .nil)))) (.node (o_24 P) (.node (o_40 P) (.node (o_72 P) (.node (o_136 P) (.node (o_264 P) .nil .nil) .nil) (.node (o_200 P) (.node (o_328 P) .nil .nil) .nil)) (.node (o_104 P) (.node (o_168 P) (.node (o_296 P) .nil .nil) .nil) (.node (o_232 P) .nil .nil))) (.node (o_56 P) (.node (o_88 P) (.node (o_152 P) (.node (o_280 P) .nil .nil) .nil) (.node (o_216 P) (.node (o_344 P) .nil .nil) .nil)) (.node (o_120 P) (.node (o_184 P) (.node (o_312 P) .nil .nil) .nil) (.node (o_248 P) .nil .nil))))) (.node (o_12 P) (.node (o_20 P) (.node (o_36 P) (.node (o_68 P) (.node (o_132 P) (.node (o_260 P) .nil .nil) .nil) (.node (o_196 P) (.node (o_324 P) .nil .nil) .nil)) (.node (o_100 P) (.node (o_164 P) (.node (o_292 P) .nil .nil) .nil) (.node (o_228 P) (.node (o_356 P) .nil .nil) .nil))) (.node (o_52 P) (.node (o_84 P) (.node (o_148 P) (.node (o_276 P) .nil .nil) .nil) (.node (o_212 P) (.node (o_340 P) .nil .nil) .nil)) (.node (o_116 P) (.node (o_180 P) (.node (o_308 P) .nil .nil) .nil) (.node (o_244 P) .nil .nil)))) (.node (o_28 P) (.node (o_44 P) (.node (o_76 P) (.node (o_140 P) (.node (o_268 P) .nil .nil) .nil) (.node (o_204 P) (.node (o_332 P) .nil .nil) .nil)) (.node (o_108 P) (.node (o_172 P) (.node (o_300 P) .nil .nil) .nil) (.node (o_236 P) .nil .nil))) (.node (o_60 P) (.node (o_92 P) (.node (o_156 P) (.node (o_284 P) .nil .nil) .nil) (.node (o_220 P) (.node (o_348 P) .nil .nil) .nil)) (.node (o_124 P) (.node (o_188 P) (.node (o_316 P) .nil .nil) .nil) (.node (o_252 P) .nil .nil)))))) (.node (boot_o_6 P) (.node (boot_o_10 P) (.node (o_18 P) (.node (o_34 P) (.node (o_66 P) (.node (o_130 P) (.node (o_258 P) .nil .nil) .nil) (.node (o_194 P) (.node (o_322 P) .nil .nil) .nil)) (.node (o_98 P) (.node (o_162 P) (.node (o_290 P) .nil .nil) .nil) (.node (o_226 P) (.node (o_354 P) .nil .nil) .nil))) (.node (o_50 P) (.node (o_82 P) (.node (o_146 P) (.node (o_274 P) .nil .nil) .nil) (.node (o_210 P) (.node (o_338 P) .nil .nil) .nil)) (.node (o_114 P) (.node (o_178 P) (.node (o_306 P) .nil .nil) .nil) (.node (o_242 P) .nil .nil)))) (.node (o_26 P) (.node (o_42 P) (.node (o_74 P) (.node (o_138 P) (.node (o_266 P) .nil .nil) .nil) (.node (o_202 P) (.node (o_330 P) .nil .nil) .nil)) (.node (o_106 P) (.node (o_170 P) (.node (o_298 P) .nil .nil) .nil) (.node (o_234 P) .nil .nil))) (.node (o_58 P) (.node (o_90 P) (.node (o_154 P) (.node (o_282 P) .nil .nil) .nil) (.node (o_218 P) (.node (o_346 P) .nil .nil) .nil)) (.node (o_122 P) (.node (o_186 P) (.node (o_314 P) .nil .nil) .nil) (.node (o_250 P) .nil .nil))))) (.node (o_14 P) (.node (o_22 P) (.node (o_38 P) (.node (o_70 P) (.node (o_134 P) (.node (o_262 P) .nil .nil) .nil) (.node (o_198 P) (.node (o_326 P) .nil .nil) .nil)) (.node (o_102 P) (.node (o_166 P) (.node (o_294 P) .nil .nil) .nil) (.node (o_230 P) .nil .nil))) (.node (o_54 P) (.node (o_86 P) (.node (o_150 P) (.node (o_278 P) .nil .nil) .nil) (.node (o_214 P) (.node (o_342 P) .nil .nil) .nil)) (.node (o_118 P) (.node (o_182 P) (.node (o_310 P) .nil .nil) .nil) (.node (o_246 P) .nil .nil)))) (.node (o_30 P) (.node (o_46 P) (.node (o_78 P) (.node (o_142 P) (.node (o_270 P) .nil .nil) .nil) (.node (o_206 P) (.node (o_334 P) .nil .nil) .nil)) (.node (o_110 P) (.node (o_174 P) (.node (o_302 P) .nil .nil) .nil) (.node (o_238 P) .nil .nil))) (.node (o_62 P) (.node (o_94 P) (.node (o_158 P) (.node (o_286 P) .nil .nil) .nil) (.node (o_222 P) (.node (o_350 P) .nil .nil) .nil)) (.node (o_126 P) (.node (o_190 P) (.node (o_318 P) .nil .nil) .nil) (.node (o_254 P) .nil .nil))))))))
noncomputable def h_0 (P : Params) : Heap := { objs := ⟨[boot_o_0 P, boot_o_1 P, boot_o_2 P, boot_o_3 P, boot_o_4 P, boot_o_5 P, boot_o_6 P, boot_o_7 P, boot_o_8 P, boot_o_9 P, boot_o_10 P, i_11 P, i_12 P, o_13 P, o_14 P]⟩, life := {} }
noncomputable def h_1 (P : Params) : Heap := { objs := ⟨[boot_o_0 P, boot_o_1 P, boot_o_2 P, o_3 P, boot_o_4 P, boot_o_5 P, boot_o_6 P, boot_o_7 P, boot_o_8 P, boot_o_9 P, boot_o_10 P, o_11 P, o_12 P, o_13 P, o_14 P, o_15 P, o_16 P, o_17 P, o_18 P, o_19 P, o_20 P, o_21 P, o_22 P, o_23 P, o_24 P, o_25 P, o_26 P, o_27 P, o_28 P, o_29 P, o_30 P, o_31 P, o_32 P, o_33 P, o_34 P, o_35 P, o_36 P, o_37 P, o_38 P, o_39 P, o_40 P, o_41 P, o_42 P, o_43 P, o_44 P, o_45 P, o_46 P, o_47 P, o_48 P, o_49 P, o_50 P, o_51 P, o_52 P, o_53 P, o_54 P, o_55 P, o_56 P, o_57 P, o_58 P, o_59 P, o_60 P, o_61 P, o_62 P, o_63 P, o_64 P, o_65 P, o_66 P, o_67 P, o_68 P, o_69 P, o_70 P, o_71 P, o_72 P, o_73 P, o_74 P, o_75 P, o_76 P, o_77 P, o_78 P, o_79 P, o_80 P, o_81 P, o_82 P, o_83 P, o_84 P, o_85 P, o_86 P, o_87 P, o_88 P, o_89 P, o_90 P, o_91 P, o_92 P, o_93 P, o_94 P, o_95 P, o_96 P, o_97 P, o_98 P, o_99 P, o_100 P, o_101 P, o_102 P, o_103 P, o_104 P, o_105 P, o_106 P, o_107 P, o_108 P, o_109 P, o_110 P, o_111 P, o_112 P, o_113 P, o_114 P, o_115 P, o_116 P, o_117 P, o_118 P, o_119 P, o_120 P, o_121 P, o_122 P, o_123 P, o_124 P, o_125 P, o_126 P, o_127 P, o_128 P, o_129 P, o_130 P, o_131 P, o_132 P, o_133 P, o_134 P, o_135 P, o_136 P, o_137 P, o_138 P, o_139 P, o_140 P, o_141 P, o_142 P, o_143 P, o_144 P, o_145 P, o_146 P, o_147 P, o_148 P, o_149 P, o_150 P, o_151 P, o_152 P, o_153 P, o_154 P, o_155 P, o_156 P, o_157 P, o_158 P, o_159 P, o_160 P, o_161 P, o_162 P, o_163 P, o_164 P, o_165 P, o_166 P, o_167 P, o_168 P, o_169 P, o_170 P, o_171 P, o_172 P, o_173 P, o_174 P, o_175 P, o_176 P, o_177 P, o_178 P, o_179 P, o_180 P, o_181 P, o_182 P, o_183 P, o_184 P, o_185 P, o_186 P, o_187 P, o_188 P, o_189 P, o_190 P, o_191 P, o_192 P, o_193 P, o_194 P, o_195 P, o_196 P, o_197 P, o_198 P, o_199 P, o_200 P, o_201 P, o_202 P, o_203 P, o_204 P, o_205 P, o_206 P, o_207 P, o_208 P, o_209 P, o_210 P, o_211 P, o_212 P, o_213 P, o_214 P, o_215 P, o_216 P, o_217 P, o_218 P, o_219 P, o_220 P, o_221 P, o_222 P, o_223 P, o_224 P, o_225 P, o_226 P, o_227 P, o_228 P, o_229 P, o_230 P, o_231 P, o_232 P, o_233 P, o_234 P, o_235 P, o_236 P, o_237 P, o_238 P, o_239 P, o_240 P, o_241 P, o_242 P, o_243 P, o_244 P, o_245 P, o_246 P, o_247 P, o_248 P, o_249 P, o_250 P, o_251 P, o_252 P, o_253 P, o_254 P, o_255 P, o_256 P, o_257 P, o_258 P, o_259 P, o_260 P, o_261 P, o_262 P, o_263 P, o_264 P, o_265 P, o_266 P, o_267 P, o_268 P, o_269 P, o_270 P, o_271 P, o_272 P, o_273 P, o_274 P, o_275 P, o_276 P, o_277 P, o_278 P, o_279 P, o_280 P, o_281 P, o_282 P, o_283 P, o_284 P, o_285 P, o_286 P, o_287 P, o_288 P, o_289 P, o_290 P, o_291 P, o_292 P, o_293 P, o_294 P, o_295 P, o_296 P, o_297 P, o_298 P, o_299 P, o_300 P, o_301 P, o_302 P, o_303 P, o_304 P, o_305 P, o_306 P, o_307 P, o_308 P, o_309 P, o_310 P, o_311 P, o_312 P, o_313 P, o_314 P, o_315 P, o_316 P, o_317 P, o_318 P, o_319 P, o_320 P, o_321 P, o_322 P, o_323 P, o_324 P, o_325 P, o_326 P, o_327 P, o_328 P, o_329 P, o_330 P, o_331 P, o_332 P, o_333 P, o_334 P, o_335 P, o_336 P, o_337 P, o_338 P, o_339 P, o_340 P, o_341 P, o_342 P, o_343 P, o_344 P, o_345 P, o_346 P, o_347 P, o_348 P, o_349 P, o_350 P, o_351 P, o_352 P, o_353 P, o_354 P, o_355 P, o_356 P, o_357 P]⟩, life := {} }
noncomputable abbrev tB : List Stmt := behindTheImports pw_sj0182_01
noncomputable abbrev tE : Env := ⟨pw_sj0182_01.main.scope, mainNs, mainNs, [], "", none, .ref 13, some 14, 0⟩
noncomputable abbrev tC : Code := .body tB tE
noncomputable abbrev p0 : Pos := ⟨0, 0, 0, 0⟩
noncomputable abbrev p1 : Pos := ⟨283, 0, 297, 67⟩
theorem r_pre (w : World) : (fun os => topGo treeTable pw_sj0182_01 w 11 (some (.ref 6)) 12 ⟨boot_heap w.params, ⟨[]⟩, boot_drawn, boot_toks, os⟩ (topStub pw_sj0182_01)) =
    fun os => some (⟨h_0 w.params, ⟨[]⟩, {}, 187, os⟩, ⟨denote treeTable tC, tC, p0, [topFrame p0]⟩) := by kernel_rfl
theorem r_blk (w : World) : (fun os => segRun treeTable pw_sj0182_01 w 11 (some (.ref 6)) 1 1 ⟨h_0 w.params, ⟨[]⟩, {}, 187, os⟩ (blockOf tB tE tC p0 [topFrame p0])) =
    fun os => some (.next, SharedT.abs { tree := t_0 w.params, n := 15, life := {}, gens := ⟨[]⟩, drawn := {}, toks := 187, os := os }, tC, p0) := by kernel_rfl
theorem r_run (w : World) : (fun os => segRunT treeTable pw_sj0182_01 w 11 (some (.ref 6)) 1 1900 { tree := t_0 w.params, n := 15, life := {}, gens := ⟨[]⟩, drawn := {}, toks := 187, os := os } (piecesOf tB tE tC p0 [topFrame p0])) =
    fun os => some (.next, { tree := t_1 w.params, n := 358, life := {}, gens := ⟨[]⟩, drawn := {}, toks := 714, os := os }, tC, p1) := by kernel_rfl
theorem r_fin (w : World) : (fun os => topRun treeTable pw_sj0182_01 w 11 (some (.ref 6)) 2 (SharedT.abs { tree := t_1 w.params, n := 358, life := {}, gens := ⟨[]⟩, drawn := {}, toks := 714, os := os }) ⟨doneF .next, tC, p1, [topFrame p0]⟩) =
    fun os => some ⟨h_1 w.params, ⟨[]⟩, {}, 714, os⟩ := by kernel_rfl
/-- a part of the heap behind the text's top: found by running the model, shown below -/
noncomputable def hd.heap_39 (P : Params) : Frag := [
    (3, ⟨.type "dict", none, .dict #[dE P "__name__" 165 (.str "law_sj0182_01" 557),
      dE P "__doc__" 166 .none,
      dE P "__package__" 167 .none,
      dE P "__loader__" 168 (.builtin "__main__.__loader__#opaque"),
      dE P "__spec__" 169 .none,
      dE P "__annotations__" 170 (.ref 6),
      dE P "__builtins__" 171 (.ref 4),
      dE P "__file__" 173 (.str "/claim/cut.py" 172),
      dE P "__cached__" 174 .none,
      dE P "_wall" 193 (.ref 21),
      dE P "sends_hellos" 202 (.ref 28),
      dE P "LAST_SEQ" 206 (.int 2147483647 205),
      dE P "MAX_AGE" 208 (.int 3600 207),
      dE P "MAX_AGE_DIFF" 210 (.int 900 209),
      dE P "MIN_ARRIVAL" 212 (.int 1 211),
      dE P "newer_of" 222 (.ref 36),
      dE P "aged_head" 231 (.ref 44),
      dE P "key_of" 238 (.ref 51),
      dE P "aged" 248 (.ref 58),
      dE P "is_changed" 256 (.ref 65),
      dE P "Database" 392 (.ref 167),
      dE P "STATES" 403 (.ref 172),
      dE P "is_at_least" 411 (.ref 179),
      dE P "is_exchanging" 418 (.ref 186),
      dE P "EXTERNAL" 422 (.int 5 421),
      dE P "GREATEST_KIND" 424 (.int 5 423),
      dE P "barred" 432 (.ref 193),
      dE P "verdict" 444 (.ref 200),
      dE P "is_reached" 455 (.ref 207),
      dE P "met_request" 465 (.ref 214),
      dE P "owe_all" 476 (.ref 221),
      dE P "goes_back" 484 (.ref 228),
      dE P "flooded" 498 (.ref 235),
      dE P "sent" 506 (.ref 242),
      dE P "answer_by" 515 (.ref 249),
      dE P "is_settled" 524 (.ref 256),
      dE P "forget_owed" 534 (.ref 263),
      dE P "is_talking" 543 (.ref 270),
      dE P "sent_anew" 556 (.ref 277),
      dE P "_law_keys" 565 (.ref 280),
      dE P "_law_drawn" 573 (.ref 287),
      dE P "_law_row" 581 (.ref 294),
      dE P "_law_net" 594 (.ref 301),
      dE P "_law_sent" 605 (.ref 308),
      dE P "_law_told" 616 (.ref 315),
      dE P "_law_row_came" 636 (.ref 322),
      dE P "_law_come" 651 (.ref 329),
      dE P "_law_deed" 665 (.ref 336),
      dE P "_law_state" 682 (.ref 343),
      dE P "_law_step_right" 698 (.ref 350),
      dE P "law" 713 (.ref 357)] 51, #[]⟩),
    (27, cdO 27 "sends_hellos" "sends_hellos" 196 5 1 200),
    (28, fnO (stAt 2) "sends_hellos" .none "routeloom.istate" 194 27),
    (29, ⟨.type "tuple", none, .seq #[.int 3600 207, .int 900 209] 0, #[]⟩),
    (35, cdO 35 "newer_of" "newer_of" 213 12 4 220),
    (36, fnO (stAt 8) "newer_of" (.ref 29) "routeloom.seqs" 203 35),
    (37, ⟨.type "tuple", none, .seq #[.int 3600 207] 0, #[]⟩),
    (43, cdO 43 "aged_head" "aged_head" 223 22 3 229),
    (44, fnO (stAt 9) "aged_head" (.ref 37) "routeloom.seqs" 203 43),
    (50, cdO 50 "key_of" "key_of" 232 24 1 236),
    (51, fnO (stAt 10) "key_of" .none "routeloom.seqs" 203 50),
    (57, cdO 57 "aged" "aged" 241 27 2 246),
    (58, fnO (stAt 12) "aged" .none "routeloom.lsdb" 239 57),
    (64, cdO 64 "is_changed" "is_changed" 249 29 2 254),
    (65, fnO (stAt 13) "is_changed" .none "routeloom.lsdb" 239 64),
    (78, cdO 78 "__init__" "Database.__init__" 269 37 1 273),
    (79, fnO (methAt 0) "Database.__init__" .none "routeloom.lsdb" 239 78),
    (85, cdO 85 "put" "Database.put" 276 40 3 284),
    (86, fnO (methAt 1) "Database.put" .none "routeloom.lsdb" 239 85),
    (92, cdO 92 "look" "Database.look" 287 46 3 295),
    (93, fnO (methAt 2) "Database.look" .none "routeloom.lsdb" 239 92),
    (99, cdO 99 "since" "Database.since" 298 52 2 303),
    (100, fnO (methAt 3) "Database.since" .none "routeloom.lsdb" 239 99),
    (166, ⟨.type "dict", none, .dict #[dE P "__module__" 264 (.str "routeloom.lsdb" 239),
      dE P "__firstlineno__" 268 (.int 35 267),
      dE P "__init__" 275 (.ref 79),
      dE P "put" 286 (.ref 86),
      dE P "look" 297 (.ref 93),
      dE P "since" 305 (.ref 100),
      dE P "drop" 313 (.ref 107),
      dE P "keys" 320 (.ref 114),
      dE P "all_rows" 328 (.ref 121),
      dE P "summary" 336 (.ref 128),
      dE P "ended" 344 (.ref 135),
      dE P "to_refresh" 353 (.ref 142),
      dE P "end" 364 (.ref 149),
      dE P "swept" 374 (.ref 156),
      dE P "next_time" 383 (.ref 164),
      dE P "__static_attributes__" 385 (.ref 165),
      dE P "__dict__" 387 (.ref 168),
      dE P "__weakref__" 389 (.ref 169),
      dE P "__doc__" 390 .none] 4, #[]⟩),
    (167, ⟨.type "type", none, .cls { name := "Database", bases := [.type "object"], mro := [.ref 167, .type "object"], ns := 166, qualname := "Database" }, #[none, none, some (.str "Database" 257), some (.str "Database" 265), some (.builtin "object.__new__"), some (.bool true)]⟩),
    (168, ⟨.type "getset_descriptor", none, .fields #[.str "__dict__" 386, .ref 167, .builtin "function.__dict__", .builtin "function.__dict__#set"], #[]⟩),
    (169, ⟨.type "getset_descriptor", none, .fields #[.str "__weakref__" 388, .ref 167, .builtin "ExceptionGroup.__weakref__", .none], #[]⟩),
    (172, ⟨.type "tuple", none, .seq #[.str "down" 395, .str "attempt" 396, .str "init" 397, .str "two_way" 398, .str "exstart" 399, .str "exchange" 400, .str "loading" 401, .str "full" 402] 0, #[]⟩),
    (178, cdO 178 "is_at_least" "is_at_least" 404 88 2 409),
    (179, fnO (stAt 17) "is_at_least" .none "routeloom.nstate" 393 178),
    (185, cdO 185 "is_exchanging" "is_exchanging" 412 90 1 416),
    (186, fnO (stAt 18) "is_exchanging" .none "routeloom.nstate" 393 185),
    (192, cdO 192 "barred" "barred" 425 95 2 430),
    (193, fnO (stAt 22) "barred" .none "routeloom.receive" 419 192),
    (199, cdO 199 "verdict" "verdict" 433 99 4 442),
    (200, fnO (stAt 23) "verdict" .none "routeloom.receive" 419 199),
    (206, cdO 206 "is_reached" "is_reached" 447 118 3 453),
    (207, fnO (stAt 25) "is_reached" .none "routeloom.flooding" 445 206),
    (213, cdO 213 "met_request" "met_request" 456 122 2 463),
    (214, fnO (stAt 26) "met_request" .none "routeloom.flooding" 445 213),
    (220, cdO 220 "owe_all" "owe_all" 466 131 3 474),
    (221, fnO (stAt 27) "owe_all" .none "routeloom.flooding" 445 220),
    (227, cdO 227 "goes_back" "goes_back" 477 138 2 482),
    (228, fnO (stAt 28) "goes_back" .none "routeloom.flooding" 445 227),
    (234, cdO 234 "flooded" "flooded" 485 140 4 496),
    (235, fnO (stAt 29) "flooded" .none "routeloom.flooding" 445 234),
    (241, cdO 241 "sent" "sent" 499 150 2 504),
    (242, fnO (stAt 30) "sent" .none "routeloom.flooding" 445 241),
    (248, cdO 248 "answer_by" "answer_by" 507 152 3 513),
    (249, fnO (stAt 31) "answer_by" .none "routeloom.flooding" 445 248),
    (255, cdO 255 "is_settled" "is_settled" 516 160 2 522),
    (256, fnO (stAt 32) "is_settled" .none "routeloom.flooding" 445 255),
    (262, cdO 262 "forget_owed" "forget_owed" 525 168 2 532),
    (263, fnO (stAt 33) "forget_owed" .none "routeloom.flooding" 445 262),
    (269, cdO 269 "is_talking" "is_talking" 535 172 1 541),
    (270, fnO (stAt 34) "is_talking" .none "routeloom.flooding" 445 269),
    (276, cdO 276 "sent_anew" "sent_anew" 544 178 4 554),
    (277, fnO (stAt 35) "sent_anew" .none "routeloom.flooding" 445 276),
    (278, ⟨.type "tuple", none, .seq #[.int 1 559, .int 7 560, .int 1 561] 0, #[]⟩),
    (279, ⟨.type "tuple", none, .seq #[.int 1 562, .int 7 563, .int 2 564] 0, #[]⟩),
    (280, ⟨.type "tuple", none, .seq #[.ref 278, .ref 279] 0, #[]⟩),
    (286, cdO 286 "_law_drawn" "_law_drawn" 566 186 2 571),
    (287, fnO (stAt 38) "_law_drawn" .none "law_sj0182_01" 557 286),
    (293, cdO 293 "_law_row" "_law_row" 574 191 2 579),
    (294, fnO (stAt 39) "_law_row" .none "law_sj0182_01" 557 293),
    (300, cdO 300 "_law_net" "_law_net" 582 193 1 592),
    (301, fnO (stAt 40) "_law_net" .none "law_sj0182_01" 557 300),
    (307, cdO 307 "_law_sent" "_law_sent" 595 205 4 603),
    (308, fnO (stAt 41) "_law_sent" .none "law_sj0182_01" 557 307),
    (314, cdO 314 "_law_told" "_law_told" 606 208 2 614),
    (315, fnO (stAt 42) "_law_told" .none "law_sj0182_01" 557 314),
    (321, cdO 321 "_law_row_came" "_law_row_came" 617 215 4 634),
    (322, fnO (stAt 43) "_law_row_came" .none "law_sj0182_01" 557 321),
    (328, cdO 328 "_law_come" "_law_come" 637 236 3 649),
    (329, fnO (stAt 44) "_law_come" .none "law_sj0182_01" 557 328),
    (335, cdO 335 "_law_deed" "_law_deed" 652 246 3 663),
    (336, fnO (stAt 45) "_law_deed" .none "law_sj0182_01" 557 335),
    (342, cdO 342 "_law_state" "_law_state" 666 259 1 680),
    (343, fnO (stAt 46) "_law_state" .none "law_sj0182_01" 557 342),
    (349, cdO 349 "_law_step_right" "_law_step_right" 683 271 3 696),
    (350, fnO (stAt 47) "_law_step_right" .none "law_sj0182_01" 557 349),
    (356, cdO 356 "law" "law" 699 283 1 711),
    (357, fnO (stAt 48) "law" .none "law_sj0182_01" 557 356)]
noncomputable def keepL : List Nat := [0, 2, 4, 5, 6, 7, 10, 12, 13, 14, 16, 17, 18, 20, 21, 22, 23, 25, 26, 27, 28, 29, 30, 31, 32, 33, 34, 35, 37, 38, 39, 40, 41, 42, 43, 44, 45, 46, 47, 48]
noncomputable def vw : Program := { pw_sj0182_01 with main := { pw_sj0182_01.main with body := keepL.filterMap fun i => pw_sj0182_01.main.body[i]? } }
noncomputable abbrev hk : Hook := kHook hd.heap_39 [3, 27, 28, 29, 35, 36, 37, 43, 44, 50, 51, 57, 58, 64, 65, 78, 79, 85, 86, 92, 93, 99, 100, 166, 167, 168, 169, 172, 178, 179, 185, 186, 192, 193, 199, 200, 206, 207, 213, 214, 220, 221, 227, 228, 234, 235, 241, 242, 248, 249, 255, 256, 262, 263, 269, 270, 276, 277, 278, 279, 280, 286, 287, 293, 294, 300, 301, 307, 308, 314, 315, 321, 322, 328, 329, 335, 336, 342, 343, 349, 350, 356, 357] (fun _ => by kernel_rfl)
theorem r_all (w : World) (os : OsState) : topRun treeTable pw_sj0182_01 w 11 (some (.ref 6)) (12 + (1 + (1900 + 2))) ⟨boot_heap w.params, ⟨[]⟩, boot_drawn, boot_toks, os⟩ (topStub pw_sj0182_01) = some ⟨h_1 w.params, ⟨[]⟩, {}, 714, os⟩ :=
  go_top (congrFun (r_pre w) os) (piece_block (congrFun (r_blk w) os) (by
    have k := piece_app (l := tB) (rest := []) (env := tE) (q := p0) (segRun_of (congrFun (r_run w) os)) (piece_nil (congrFun (r_fin w) os))
    rw [List.append_nil] at k
    exact k))
theorem r_open : ∀ w : World, (fencedOpening treeTable pw_sj0182_01 w 3838).map (fun s => (s.heap, s.gens, s.drawn, s.toks)) = some (boot_heap w.params, Array.mk [], boot_drawn, boot_toks) := boot_open (by kernel_rfl) (by kernel_rfl) (fun s => by kernel_rfl)
theorem r_size (w : World) : ((boot_heap w.params).isNs mainGlobals && (#[] : Array GenState).size == 0, (boot_heap w.params).objs.size, (boot_heap w.params).nsMap mainGlobals "__annotations__") = (true, 11, some (.ref 6)) := by kernel_rfl
theorem lo : LeftO pw_sj0182_01 vw ["newer_of", "aged_head"] (fun s => xlAt vw [] s && recOk [] s) (Hook.obs hk) (Hook.val hk) 3838 :=
  LeftO.of_pieces (H₀ := boot_heap) (H₁ := h_1) (gs₀ := ⟨[]⟩) (gs₁ := ⟨[]⟩) (d₀ := boot_drawn) (d₁ := {}) (k₀ := boot_toks) (k₁ := 714) (m₀ := 11) (ann := some (.ref 6)) (M := 12 + (1 + (1900 + 2)))
    r_open r_size r_all rfl (fun w => by kernel_rfl)
-- Hd3
theorem said : rw_sj0182_01.wellSaid = true := by kernel_rfl

-- Hd4
noncomputable def dfOf (s : Stmt) : DefRec := match s with
  | .FunctionDef (name := n) (args := a) (body := b) (scope := sc) (pos := p) .. => { name := n, params := a, body := b, scope := sc, pos := p }
  | _ => ⟨"", ⟨[], [], none, [], [], none, []⟩, [], { kind := .function, names := [], isGenerator := false, isCoroutine := false, more := [] }, ⟨0, 0, 0, 0⟩⟩
theorem hdef : defOf vw rw_sj0182_01.row.name = some (dfOf (stAt 48), []) := by kernel_rfl
theorem hp : rw_sj0182_01.row.prog.theDef rw_sj0182_01.row.name = some ((dfOf (stAt 48)).params, (dfOf (stAt 48)).body, (dfOf (stAt 48)).scope) := by kernel_rfl
theorem hkw : kwWritten? (dfOf (stAt 48)).params.kwonlyargs (dfOf (stAt 48)).params.kw_defaults = some [] := by kernel_rfl
theorem hok : (chainsOk vw && opensWell rw_sj0182_01.row.prog && (frees rw_sj0182_01.row.toRowW && rw_sj0182_01.row.within.isEmpty)) = true := by kernel_rfl
theorem hd (call : WalkO vw ["newer_of", "aged_head"] (XL vw []) (Hook.says hk) rw_sj0182_01.row.toRowW (dfOf (stAt 48)) [] fun f vs => PySem.call f vs) : rw_sj0182_01.Holds := by
  refine holds_law said fun said2 => ?_
  refine holds_open (q := vw) (loose := ["newer_of", "aged_head"]) (Xt := fun s => xlAt vw [] s && recOk [] s) (XP := XL vw []) (Yf := Hook.obs hk) (Ya := Hook.val hk) (YP := Hook.says hk) (N := 3838) lo (Hook.of hk) (Hook.keeps hk) (fun s e => xl_of s (Bool.and_eq_true_iff.mp e).1) XL.keeps hdef hp hkw (fun s e => recFacts_of (Bool.and_eq_true_iff.mp e).2) ?hwr said2 hok ?hb ?hw call
  case hwr => rfl
  case hb => exact ⟨rfl, rfl, rfl, rfl, rfl, by decide +kernel⟩
  case hw => w_witness2


theorem lt3 {i : Nat} (h : i < 3) : i = 0 ∨ i = 1 ∨ i = 2 := by omega
theorem lt2 {i : Nat} (h : i < 2) : i = 0 ∨ i = 1 := by omega
-- TCore
inductive AV where
  | none | bool (b : Bool) | int (i : Int) | str (s : Str) | tup (xs : List AV) | ref (a : Addr) | bi (id : String) | ty (n : String)

noncomputable abbrev tupObj (items : Array Value) (n : Nat) : Obj := { cls := .type "tuple", data := .seq items n }
noncomputable abbrev lstObj (items : Array Value) (n : Nat) : Obj := { cls := .type "list", data := .seq items n }

mutual
inductive Is (h : Heap) : Value → AV → Prop
  | none : Is h .none .none
  | bool (b : Bool) : Is h (.bool b) (.bool b)
  | int (i : Int) (t : Tok) : Is h (.int i t) (.int i)
  | str (s : Str) (t : Tok) : Is h (.str s t) (.str s)
  | ref (a : Addr) : Is h (.ref a) (.ref a)
  | bi (id : String) : Is h (.builtin id) (.bi id)
  | ty (n : String) : Is h (.type n) (.ty n)
  | tup {a : Addr} {o : Obj} {items : Array Value} {n : Nat} {xs : List AV} : h.get? a = some o → o.cls = .type "tuple" → o.data = .seq items n → IsL h items.toList xs → Is h (.ref a) (.tup xs)
inductive IsL (h : Heap) : List Value → List AV → Prop
  | nil : IsL h [] []
  | cons {v : Value} {vs : List Value} {x : AV} {xs : List AV} : Is h v x → IsL h vs xs → IsL h (v :: vs) (x :: xs)
end

theorem Is.int_elim {h : Heap} {v : Value} {i : Int} {P : Value → Prop} (q : Is h v (.int i)) (k : ∀ t, P (.int i t)) : P v := by cases q; exact k _
theorem Is.str_elim {h : Heap} {v : Value} {i : Str} {P : Value → Prop} (q : Is h v (.str i)) (k : ∀ t, P (.str i t)) : P v := by cases q; exact k _
theorem Is.bool_elim {h : Heap} {v : Value} {i : Bool} {P : Value → Prop} (q : Is h v (.bool i)) (k : P (.bool i)) : P v := by cases q; exact k
theorem Is.none_elim {h : Heap} {v : Value} {P : Value → Prop} (q : Is h v .none) (k : P .none) : P v := by cases q; exact k
theorem Is.ref_elim {h : Heap} {v : Value} {a : Addr} {P : Value → Prop} (q : Is h v (.ref a)) (k : P (.ref a)) : P v := by cases q; exact k
theorem Is.ty_elim {h : Heap} {v : Value} {n : String} {P : Value → Prop} (q : Is h v (.ty n)) (k : P (.type n)) : P v := by cases q; exact k
theorem Is.bi_elim {h : Heap} {v : Value} {n : String} {P : Value → Prop} (q : Is h v (.bi n)) (k : P (.builtin n)) : P v := by cases q; exact k
theorem Is.tup_elim {h : Heap} {v : Value} {xs : List AV} {P : Value → Prop} (q : Is h v (.tup xs)) (k : ∀ a o items n, h.get? a = some o → o.cls = .type "tuple" → o.data = .seq items n → IsL h items.toList xs → P (.ref a)) : P v := by cases q; exact k _ _ _ _ (by assumption) (by assumption) (by assumption) (by assumption)

/-- tuples stay -/
noncomputable def IsTupO (o : Obj) : Prop := o.cls = .type "tuple" ∧ ∃ items n, o.data = .seq items n
noncomputable def TupKept (h h' : Heap) : Prop := ∀ a o, h.get? a = some o → IsTupO o → h'.get? a = some o
theorem TupKept.refl (h : Heap) : TupKept h h := fun _ _ e _ => e
theorem TupKept.trans {h h' h'' : Heap} (x : TupKept h h') (y : TupKept h' h'') : TupKept h h'' := fun a o e c => y a o (x a o e c) c

mutual
theorem Is.mono {h h' : Heap} (k : TupKept h h') : ∀ {v : Value} {x : AV}, Is h v x → Is h' v x
  | _, _, .none => .none
  | _, _, .bool b => .bool b
  | _, _, .int i t => .int i t
  | _, _, .str s t => .str s t
  | _, _, .ref a => .ref a
  | _, _, .bi i => .bi i
  | _, _, .ty n => .ty n
  | _, _, .tup e c d l => .tup (k _ _ e ⟨c, _, _, d⟩) c d (IsL.mono k l)
theorem IsL.mono {h h' : Heap} (k : TupKept h h') : ∀ {vs : List Value} {xs : List AV}, IsL h vs xs → IsL h' vs xs
  | _, _, .nil => .nil
  | _, _, .cons a b => .cons (Is.mono k a) (IsL.mono k b)
end

theorem IsL.length {h : Heap} : ∀ {vs : List Value} {xs : List AV}, IsL h vs xs → vs.length = xs.length
  | _, _, .nil => rfl
  | _, _, .cons _ b => by simp [IsL.length b]
theorem IsL.get {h : Heap} : ∀ {vs : List Value} {xs : List AV} (_ : IsL h vs xs) {i : Nat} {x : AV}, xs[i]? = some x → ∃ v, vs[i]? = some v ∧ Is h v x
  | _, _, .nil, i, x, e => by simp at e
  | _, _, .cons (v := v) a b, 0, x, e => by
    simp only [List.getElem?_cons_zero, Option.some.injEq] at e
    subst e; exact ⟨v, rfl, a⟩
  | _, _, .cons a b, i + 1, x, e => by
    simp only [List.getElem?_cons_succ] at e ⊢
    exact IsL.get b e
theorem IsL.append {h : Heap} : ∀ {vs vs' : List Value} {xs xs' : List AV}, IsL h vs xs → IsL h vs' xs' → IsL h (vs ++ vs') (xs ++ xs')
  | _, _, _, _, .nil, b => b
  | _, _, _, _, .cons a r, b => .cons a (IsL.append r b)
theorem IsL.drop {h : Heap} : ∀ {vs : List Value} {xs : List AV} (n : Nat), IsL h vs xs → IsL h (vs.drop n) (xs.drop n)
  | _, _, 0, a => a
  | _, _, _ + 1, .nil => by simpa using IsL.nil
  | _, _, n + 1, .cons _ b => by simpa using IsL.drop n b
theorem IsL.take {h : Heap} : ∀ {vs : List Value} {xs : List AV} (n : Nat), IsL h vs xs → IsL h (vs.take n) (xs.take n)
  | _, _, 0, _ => by simpa using IsL.nil
  | _, _, _ + 1, .nil => by simpa using IsL.nil
  | _, _, n + 1, .cons a b => by simpa using IsL.cons a (IsL.take n b)

inductive AO where
  | lst (xs : List AV)
  | arr (xs : List AV)
  | sd (m : List (Str × AV))
  | td (m : List (List Int × AV))
  | ns (m : List (Str × AV))
  | raw (o : Obj)

noncomputable def MapIs (h : Heap) (f : Str → Option Value) (m : List (Str × AV)) : Prop := ∀ k, match m.lookup k with
  | some x => ∃ v, f k = some v ∧ Is h v x
  | none => f k = none
theorem MapIs.mono {h h' : Heap} {f m} (x : MapIs h f m) (k : TupKept h h') : MapIs h' f m := fun n => by
  have := x n
  cases e : m.lookup n with
  | some z => rw [e] at this; obtain ⟨v, e1, e2⟩ := this; exact ⟨v, e1, e2.mono k⟩
  | none => rw [e] at this; exact this
theorem MapIs.get {h : Heap} {f m} (x : MapIs h f m) {k : Str} {a : AV} (e : m.lookup k = some a) : ∃ v, f k = some v ∧ Is h v a := by
  have := x k; rw [e] at this; exact this
theorem MapIs.cons {h : Heap} {f m} (x : MapIs h f m) {k : Str} {v : Value} {a : AV} (i : Is h v a) : MapIs h (fun y => if y = k then some v else f y) ((k, a) :: m) := fun y => by
  rw [List.lookup_cons]
  by_cases e : y = k
  · subst e; simp [i]
  · have : (y == k) = false := by simp [e]
    rw [this]; simp only [e, if_false]; exact x y

/-- an association list's first value at a key; a value put at a key -/
noncomputable def lookA {κ : Type} [DecidableEq κ] : List (κ × AV) → κ → Option AV
  | [], _ => none
  | (k', v) :: r, k => if k' = k then some v else lookA r k
noncomputable def storeA {κ : Type} [DecidableEq κ] : List (κ × AV) → κ → AV → List (κ × AV)
  | [], k, v => [(k, v)]
  | (k', v') :: r, k, v => if k' = k then (k', v) :: r else (k', v') :: storeA r k v
noncomputable def dropA {κ : Type} [DecidableEq κ] : List (κ × AV) → κ → List (κ × AV)
  | [], _ => []
  | (k', v') :: r, k => if k' = k then r else (k', v') :: dropA r k

inductive SdIs (h : Heap) : List (Str × Value) → List (Str × AV) → Prop
  | nil : SdIs h [] []
  | cons {k : Str} {v : Value} {x : AV} {xs m} : Is h v x → SdIs h xs m → SdIs h ((k, v) :: xs) ((k, x) :: m)
theorem SdIs.mono {h h' : Heap} (k : TupKept h h') : ∀ {xs m}, SdIs h xs m → SdIs h' xs m
  | _, _, .nil => .nil
  | _, _, .cons a b => .cons (a.mono k) (SdIs.mono k b)
theorem SdIs.look {h : Heap} {k : Str} : ∀ {xs m}, SdIs h xs m → ∀ {x}, lookA m k = some x → ∃ v, valueAt xs k = some v ∧ Is h v x
  | _, _, .nil, _, e => by cases e
  | _, _, .cons (k := k') (v := v) (xs := xs) a b, x, e => by
    unfold lookA at e
    by_cases q : k' = k
    · rw [if_pos q] at e; cases e; exact ⟨v, by simp [valueAt, q], a⟩
    · rw [if_neg q] at e
      obtain ⟨v', e', i⟩ := SdIs.look b e
      exact ⟨v', by simpa [valueAt, List.find?_cons, q] using e', i⟩
theorem SdIs.store {h : Heap} {k : Str} {v : Value} {x : AV} (i : Is h v x) : ∀ {xs m}, SdIs h xs m → (xs.map (·.1)).Nodup → SdIs h (stored xs k v) (storeA m k x)
  | _, _, .nil, _ => by simpa [stored, storeA] using SdIs.cons i .nil
  | _, _, .cons (k := k') (v := v') (x := x') (xs := xs) (m := m) a b, n => by
    rw [List.map_cons, List.nodup_cons] at n
    unfold storeA
    by_cases q : k' = k
    · subst q
      have e : stored ((k', v') :: xs) k' v = (k', v) :: xs := by
        have := map_store_of_not_mem xs k' v n.1
        simp [stored, this]
      rw [if_pos rfl, e]; exact .cons i b
    · have e : stored ((k', v') :: xs) k v = (k', v') :: stored xs k v := by
        unfold stored
        simp only [List.any_cons, q, decide_false, Bool.false_or]
        split <;> simp [q]
      rw [if_neg q, e]; exact .cons a (SdIs.store i b n.2)

inductive TdIs (h : Heap) : List (List Int × Addr × Value) → List (List Int × AV) → Prop
  | nil : TdIs h [] []
  | cons {k : List Int} {a : Addr} {v : Value} {x : AV} {xs m} : Is h v x → TdIs h xs m → TdIs h ((k, a, v) :: xs) ((k, x) :: m)
theorem TdIs.mono {h h' : Heap} (k : TupKept h h') : ∀ {xs m}, TdIs h xs m → TdIs h' xs m
  | _, _, .nil => .nil
  | _, _, .cons a b => .cons (a.mono k) (TdIs.mono k b)


theorem TdIs.look {h : Heap} {k : List Int} : ∀ {xs m}, TdIs h xs m → ∀ {x}, lookA m k = some x → ∃ p, atKey xs k = some p ∧ Is h p.2 x
  | _, _, .nil, _, e => by cases e
  | _, _, .cons (k := k') (a := a') (v := v) (xs := xs) a b, x, e => by
    unfold lookA at e
    by_cases q : k' = k
    · rw [if_pos q] at e; cases e; exact ⟨(a', v), by simp [atKey, q], a⟩
    · rw [if_neg q] at e
      obtain ⟨v', e', i⟩ := TdIs.look b e
      exact ⟨v', by simpa [atKey, List.find?_cons, q] using e', i⟩
theorem TdIs.look_none {h : Heap} {k : List Int} : ∀ {xs m}, TdIs h xs m → lookA m k = none → atKey xs k = none
  | _, _, .nil, _ => rfl
  | _, _, .cons (k := k') (v := v) (xs := xs) a b, e => by
    unfold lookA at e
    by_cases q : k' = k
    · rw [if_pos q] at e; cases e
    · rw [if_neg q] at e
      simpa [atKey, List.find?_cons, q] using TdIs.look_none b e
theorem TdIs.keys {h : Heap} : ∀ {xs m}, TdIs h xs m → xs.map (·.1) = m.map (·.1)
  | _, _, .nil => rfl
  | _, _, .cons a b => by simp [TdIs.keys b]
theorem TdIs.store {h : Heap} {k : List Int} {ka : Addr} {v : Value} {x : AV} (i : Is h v x) : ∀ {xs m}, TdIs h xs m → (xs.map (·.1)).Nodup → TdIs h (storedH xs k ka v) (storeA m k x)
  | _, _, .nil, _ => by simpa [storedH, atKey, storeA] using TdIs.cons i .nil
  | _, _, .cons (k := k') (a := a') (v := v') (x := x') (xs := xs) (m := m) a b, n => by
    rw [List.map_cons, List.nodup_cons] at n
    unfold storeA
    by_cases q : k' = k
    · subst q
      have e : storedH ((k', a', v') :: xs) k' ka v = (k', a', v) :: xs := by
        have z := map_putAt_of_not_mem xs k' v n.1
        simp [storedH, atKey, putAt, z]
      rw [if_pos rfl, e]; exact .cons i b
    · have e : storedH ((k', a', v') :: xs) k ka v = (k', a', v') :: storedH xs k ka v := by
        have z : atKey ((k', a', v') :: xs) k = atKey xs k := by simp [atKey, List.find?_cons, q]
        unfold storedH
        rw [z]
        split <;> simp [putAt, q]
      rw [if_neg q, e]; exact .cons a (TdIs.store i b n.2)
noncomputable def withoutH (xs : List (List Int × Addr × Value)) (k : List Int) : List (List Int × Addr × Value) := xs.filter fun x => decide (x.1 ≠ k)
theorem withoutH_of_not_mem (xs : List (List Int × Addr × Value)) (k : List Int) (hn : k ∉ xs.map (·.1)) : withoutH xs k = xs := by
  unfold withoutH
  rw [List.filter_eq_self]
  intro x hx
  exact decide_eq_true fun e => hn (e ▸ List.mem_map_of_mem hx)
theorem TdIs.drop {h : Heap} {k : List Int} : ∀ {xs m}, TdIs h xs m → (xs.map (·.1)).Nodup → TdIs h (withoutH xs k) (dropA m k)
  | _, _, .nil, _ => .nil
  | _, _, .cons (k := k') (a := a') (v := v') (x := x') (xs := xs) (m := m) a b, n => by
    rw [List.map_cons, List.nodup_cons] at n
    unfold dropA
    by_cases q : k' = k
    · subst q
      rw [if_pos rfl]
      have e : withoutH ((k', a', v') :: xs) k' = xs := by
        have z := withoutH_of_not_mem xs k' n.1
        unfold withoutH at z ⊢
        rw [List.filter_cons_of_neg (by simp), z]
      rw [e]; exact b
    · rw [if_neg q]
      have e : withoutH ((k', a', v') :: xs) k = (k', a', v') :: withoutH xs k := by
        unfold withoutH
        rw [List.filter_cons_of_pos (by simpa using q)]
      rw [e]; exact .cons a (TdIs.drop b n.2)

variable {prog : Program} {w : World}
noncomputable abbrev tkind (prog : Program) (w : World) := tupleKind (intKind prog w)

noncomputable def OIs (prog : Program) (w : World) (h : Heap) (a : Addr) : AO → Prop
  | .lst xs => ∃ items n, h.get? a = some (lstObj items n) ∧ IsL h items.toList xs
  | .arr xs => ∃ items, h.IsList a items ∧ IsL h items.toList xs
  | .sd m => ∃ kvs, h.DictOf (strKind prog w) a kvs ∧ SdIs h kvs m
  | .td m => ∃ xs, h.DictOfH (tkind prog w) a xs ∧ TdIs h xs m
  | .ns m => ∃ f, h.Ns a f ∧ MapIs h f m
  | .raw o => h.get? a = some o ∧ ¬ IsTupO o

noncomputable abbrev HM := Addr → Option AO

structure Good (prog : Program) (w : World) (h₀ : Heap) (S H : HM) (s : Shared) : Prop where
  keep : ∀ b o, h₀.get? b = some o → s.heap.get? b = some o
  st : ∀ a ao, S a = some ao → OIs prog w s.heap a ao ∧ H a = none
  ob : ∀ a ao, H a = some ao → OIs prog w s.heap a ao ∧ h₀.get? a = none
  gens : s.gens = #[]

structure Ext (H : HM) (s : Shared) (H' : HM) (s' : Shared) : Prop where
  kept : ∀ b o, s.heap.get? b = some o → H b = none → s'.heap.get? b = some o
  tup : TupKept s.heap s'.heap
  dom : ∀ a, H' a ≠ none → H a = none → s.heap.get? a = none
  os : s'.os = s.os
  there : ∀ b o, s.heap.get? b = some o → ∃ o', s'.heap.get? b = some o'
theorem Ext.refl (H : HM) (s : Shared) : Ext H s H s := ⟨fun _ _ e _ => e, .refl _, fun _ a b => absurd b a, rfl, fun _ o e => ⟨o, e⟩⟩
theorem Ext.trans {H H' H'' : HM} {s s' s'' : Shared} (x : Ext H s H' s') (y : Ext H' s' H'' s'') : Ext H s H'' s'' where
  kept := fun b o e n => by
    refine y.kept b o (x.kept b o e n) ?_
    cases q : H' b with
    | none => rfl
    | some z => have := x.dom b (by rw [q]; exact fun e => nomatch e) n; rw [e] at this; cases this
  tup := x.tup.trans y.tup
  dom := fun a n n' => by
    cases q : H' a with
    | some z => exact x.dom a (by rw [q]; exact fun e => nomatch e) n'
    | none =>
      have := y.dom a n q
      cases r : s.heap.get? a with
      | none => rfl
      | some o => have z := x.kept a o r n'; rw [this] at z; cases z
  os := y.os.trans x.os
  there := fun b o e => let ⟨o', e'⟩ := x.there b o e; y.there b o' e'

/-- an object's fact at another heap, where the object itself is kept -/
theorem OIs.move {h h' : Heap} {a : Addr} {ao : AO} (x : OIs prog w h a ao) (k : TupKept h h') (e : ∀ o, h.get? a = some o → h'.get? a = some o)  : OIs prog w h' a ao := by
  cases ao with
  | lst xs => obtain ⟨i, n, e1, l⟩ := x; exact ⟨i, n, e _ e1, l.mono k⟩
  | arr xs => obtain ⟨i, ⟨o, e1, r⟩, l⟩ := x; exact ⟨i, ⟨o, e _ e1, r⟩, l.mono k⟩
  | sd m => obtain ⟨f, ⟨o, es, ep, ho, r⟩, l⟩ := x; exact ⟨f, ⟨o, es, ep, e _ ho, r⟩, l.mono k⟩
  | td m =>
    obtain ⟨xs, ⟨o, es, ep, ho, r1, r2, r3, r4, r5⟩, l⟩ := x
    refine ⟨xs, ⟨o, es, ep, e _ ho, r1, r2, r3, fun y hy => ?_, r5⟩, l.mono k⟩
    obtain ⟨o', items, n, g1, g2, g3, g4⟩ := r4 y hy
    exact ⟨o', items, n, k _ _ g1 ⟨g2, _, _, g3⟩, g2, g3, g4⟩
  | ns m => obtain ⟨f, ⟨o, es, ep, ho, r⟩, l⟩ := x; exact ⟨f, ⟨o, es, ep, e _ ho, r⟩, l.mono k⟩
  | raw o => exact ⟨e _ x.1, x.2⟩
theorem OIs.there {h : Heap} {a : Addr} {ao : AO} (x : OIs prog w h a ao) : ∃ o, h.get? a = some o ∧ ¬ IsTupO o := by
  cases ao with
  | lst xs => obtain ⟨i, n, e1, l⟩ := x; exact ⟨_, e1, fun z => nomatch (Value.type.inj z.1)⟩
  | arr xs => obtain ⟨i, ⟨o, e1, c, r⟩, l⟩ := x; exact ⟨_, e1, fun z => by have := c.symm.trans z.1; exact nomatch (Value.type.inj this)⟩
  | sd m => obtain ⟨f, ⟨o, es, ep, ho, _, d, _⟩, l⟩ := x; exact ⟨o, ho, fun ⟨_, i, n, z⟩ => by rw [d] at z; cases z⟩
  | td m => obtain ⟨xs, ⟨o, es, ep, ho, _, d, _⟩, l⟩ := x; exact ⟨o, ho, fun ⟨_, i, n, z⟩ => by rw [d] at z; cases z⟩
  | ns m => obtain ⟨f, ⟨o, es, ep, ho, d, _⟩, l⟩ := x; exact ⟨o, ho, fun ⟨_, i, n, z⟩ => by rw [d] at z; cases z⟩
  | raw o => exact ⟨o, x.1, x.2⟩

noncomputable def HM.put (H : HM) (a : Addr) (o : AO) : HM := fun b => if b = a then some o else H b
theorem HM.put_self (H : HM) (a : Addr) (o : AO) : (H.put a o) a = some o := if_pos rfl
theorem HM.put_ne (H : HM) {a b : Addr} (o : AO) (n : b ≠ a) : (H.put a o) b = H b := if_neg n

/-- one object of H turned -/
theorem Good.update {h₀ : Heap} {S H : HM} {s s' : Shared} {a : Addr} {ao : AO} (G : Good prog w h₀ S H s) (ha : ∃ o, H a = some o) (hs : Heap.SameBut a s.heap s'.heap) (h' : OIs prog w s'.heap a ao)
    (hg : s'.gens = s.gens) (ho : s'.os = s.os) : Good prog w h₀ S (H.put a ao) s' ∧ Ext H s (H.put a ao) s' := by
  obtain ⟨oa, ha⟩ := ha
  have za := G.ob a oa ha
  obtain ⟨o₁, e₁, n₁⟩ := za.1.there
  have tk : TupKept s.heap s'.heap := fun b o e t => by
    by_cases q : b = a
    · subst q; rw [e₁] at e; cases e; exact absurd t n₁
    · rw [hs.2 b q]; exact e
  refine ⟨⟨fun b o e => ?_, fun b ao' e => ?_, fun b ao' e => ?_, hg.trans G.gens⟩, ⟨fun b o e n => ?_, tk, fun b n n' => ?_, ho, fun b o e => ?_⟩⟩
  · by_cases q : b = a
    · subst q; rw [za.2] at e; cases e
    · rw [hs.2 b q]; exact G.keep b o e
  · have z := G.st b ao' e
    have q : b ≠ a := fun q => by subst q; rw [ha] at z; cases z.2
    exact ⟨z.1.move tk fun o e => (hs.2 b q).trans e, (HM.put_ne H ao q).trans z.2⟩
  · by_cases q : b = a
    · subst q
      rw [HM.put_self] at e; cases e
      exact ⟨h', za.2⟩
    · rw [HM.put_ne H ao q] at e
      have z := G.ob b ao' e
      exact ⟨z.1.move tk fun o e => (hs.2 b q).trans e, z.2⟩
  · have q : b ≠ a := fun q => by subst q; rw [ha] at n; cases n
    exact (hs.2 b q).trans e
  · by_cases q : b = a
    · subst q; rw [ha] at n'; cases n'
    · rw [HM.put_ne H ao q] at n; exact absurd n' n
  · by_cases q : b = a
    · subst q; obtain ⟨o', e', _⟩ := h'.there; exact ⟨o', e'⟩
    · exact ⟨o, (hs.2 b q).trans e⟩

/-- the heap grows: nothing of H turns -/
theorem Good.grow {h₀ : Heap} {S H : HM} {s s' : Shared} (G : Good prog w h₀ S H s) (k : ∀ b o, s.heap.get? b = some o → s'.heap.get? b = some o) (hg : s'.gens = s.gens) (ho : s'.os = s.os) :
    Good prog w h₀ S H s' ∧ Ext H s H s' :=
  ⟨⟨fun b o e => k b o (G.keep b o e), fun a ao e => ⟨(G.st a ao e).1.move (fun b o e _ => k b o e) fun o e => k a o e, (G.st a ao e).2⟩,
    fun a ao e => ⟨(G.ob a ao e).1.move (fun b o e _ => k b o e) fun o e => k a o e, (G.ob a ao e).2⟩, hg.trans G.gens⟩,
   ⟨fun b o e _ => k b o e, fun b o e _ => k b o e, fun a n n' => absurd n' n, ho, fun b o e => ⟨o, k b o e⟩⟩⟩

/-- a new object, named in H -/
theorem Good.add {h₀ : Heap} {S H : HM} {s s' : Shared} {a : Addr} {ao : AO} (G : Good prog w h₀ S H s) (k : ∀ b o, s.heap.get? b = some o → s'.heap.get? b = some o) (hn : s.heap.get? a = none)
    (h' : OIs prog w s'.heap a ao) (hg : s'.gens = s.gens) (ho : s'.os = s.os) : Good prog w h₀ S (H.put a ao) s' ∧ Ext H s (H.put a ao) s' := by
  obtain ⟨G', X'⟩ := G.grow k hg ho
  have h0 : h₀.get? a = none := by
    cases q : h₀.get? a with
    | none => rfl
    | some o => have := G.keep a o q; rw [hn] at this; cases this
  have hS : S a = none := by
    cases q : S a with
    | none => rfl
    | some ao' => obtain ⟨o, e, _⟩ := (G.st a ao' q).1.there; rw [hn] at e; cases e
  refine ⟨⟨G'.keep, fun b ao' e => ?_, fun b ao' e => ?_, G'.gens⟩, ⟨X'.kept, X'.tup, fun b n n' => ?_, X'.os, X'.there⟩⟩
  · have q : b ≠ a := fun q => by subst q; rw [hS] at e; cases e
    exact ⟨(G'.st b ao' e).1, (HM.put_ne H ao q).trans (G'.st b ao' e).2⟩
  · by_cases q : b = a
    · subst q; rw [HM.put_self] at e; cases e; exact ⟨h', h0⟩
    · rw [HM.put_ne H ao q] at e; exact G'.ob b ao' e
  · by_cases q : b = a
    · subst q; exact hn
    · rw [HM.put_ne H ao q] at n; exact absurd n' n

/-- an object's name is dropped -/
noncomputable def HM.drop (H : HM) (a : Addr) : HM := fun b => if b = a then none else H b
theorem HM.drop_self (H : HM) (a : Addr) : (H.drop a) a = none := if_pos rfl
theorem HM.drop_ne (H : HM) {a b : Addr} (n : b ≠ a) : (H.drop a) b = H b := if_neg n
theorem Good.less {h₀ : Heap} {S H H' : HM} {s : Shared} (G : Good prog w h₀ S H s) (k : ∀ a ao, H' a = some ao → H a = some ao) : Good prog w h₀ S H' s :=
  ⟨G.keep, fun a ao e => ⟨(G.st a ao e).1, by
    cases q : H' a with
    | none => rfl
    | some z => have := (G.st a ao e).2; rw [k a z q] at this; cases this⟩, fun a ao e => G.ob a ao (k a ao e), G.gens⟩

-- TExpr
structure Cx (prog : Program) (w : World) where
  h₀ : Heap
  S : HM
  mg : Str → Option Value
  mb : Str → Option Value
  g : h₀.Ns mainGlobals mg
  b : h₀.Ns builtinsNs mb
  nolim : h₀.NoLimit
  sm : ∃ o, h₀.get? sysModules = some o
  K : Frag
  KIn : K.In h₀

/-- room for n calls more -/
structure AOk (n : Nat) (A : Around) : Prop where
  hd : A.handled = none
  dp : A.depth + n < 900
  un : A.units + 20 * n < 9000
theorem AOk.in1 {n : Nat} {A : Around} (a : AOk (n + 1) A) : AOk n A.in1 := ⟨a.hd, by have := a.dp; show A.depth + n < 900; omega, by have := a.un; show A.units + 1 + 20 * n < 9000; omega⟩
theorem AOk.less {n m : Nat} {A : Around} (a : AOk n A) (h : m ≤ n) : AOk m A := ⟨a.hd, by have := a.dp; omega, by have := a.un; omega⟩
theorem AOk.deeper {n : Nat} {A : Around} (a : AOk (n + 1) A) (e : Env) : AOk n (A.deeper e) := ⟨a.hd, by have := a.dp; show A.depth + 1 + n < 900; omega, by have := a.un; show A.units + 3 + 20 * n < 9000; omega⟩

section
variable {prog : Program} {w : World} {X : Cx prog w}

structure GL (X : Cx prog w) (L : Addr) (ρ : List (Str × AV)) (H : HM) (s : Shared) : Prop where
  off : H L = none
  good : Good prog w X.h₀ X.S (H.put L (.ns ρ)) s

noncomputable def PostL {α β : Type} (X : Cx prog w) (L : Addr) (R : Heap → α → β → Prop) (ρ : List (Str × AV)) (H : HM) (s : Shared) (Q : β → List (Str × AV) → HM → Prop) : α → Shared → Prop :=
  fun v s' => ∃ b ρ' H', R s'.heap v b ∧ GL X L ρ' H' s' ∧ Ext (H.put L (.ns ρ)) s (H'.put L (.ns ρ')) s' ∧ Q b ρ' H'

noncomputable abbrev NoE : Value → Shared → Prop := fun _ _ => False

theorem PostL.mono {α β : Type} {L : Addr} {R : Heap → α → β → Prop} {ρ : List (Str × AV)} {H : HM} {s s' : Shared} {Q Q' : β → List (Str × AV) → HM → Prop} {v : α} (p : PostL X L R ρ H s Q v s') (h : ∀ b ρ' H', Q b ρ' H' → Q' b ρ' H') : PostL X L R ρ H s Q' v s' :=
  let ⟨b, ρ', H', r, g, x, q⟩ := p; ⟨b, ρ', H', r, g, x, h _ _ _ q⟩

theorem GL.grow {L : Addr} {ρ : List (Str × AV)} {H : HM} {s s' : Shared} (G : GL X L ρ H s) (k : ∀ b o, s.heap.get? b = some o → s'.heap.get? b = some o) (hg : s'.gens = s.gens) (ho : s'.os = s.os) :
    GL X L ρ H s' ∧ Ext (H.put L (.ns ρ)) s (H.put L (.ns ρ)) s' := let ⟨a, b⟩ := G.good.grow k hg ho; ⟨⟨G.off, a⟩, b⟩

theorem done {α β : Type} {L : Addr} {R : Heap → α → β → Prop} {ρ : List (Str × AV)} {H : HM} {s s' : Shared} {Q : β → List (Str × AV) → HM → Prop} {v : α} {b : β} (G : GL X L ρ H s) (k : ∀ b o, s.heap.get? b = some o → s'.heap.get? b = some o)
    (hg : s'.gens = s.gens) (ho : s'.os = s.os) (r : R s'.heap v b) (q : Q b ρ H) : PostL X L R ρ H s Q v s' :=
  let ⟨g, x⟩ := G.grow k hg ho; ⟨b, ρ, H, r, g, x, q⟩
/-- at an end where the heap stands as it stood -/
theorem here {α β : Type} {L : Addr} {R : Heap → α → β → Prop} {ρ : List (Str × AV)} {H : HM} {s : Shared} {t : Tok} {Q : β → List (Str × AV) → HM → Prop} {v : α} {b : β} (G : GL X L ρ H s) (r : R s.heap v b) (q : Q b ρ H) : PostL X L R ρ H s Q v { s with toks := t } :=
  done (s' := { s with toks := t }) G (fun _ _ e => e) rfl rfl r q
theorem here' {α β : Type} {L : Addr} {R : Heap → α → β → Prop} {ρ : List (Str × AV)} {H : HM} {s : Shared} {Q : β → List (Str × AV) → HM → Prop} {v : α} {b : β} (G : GL X L ρ H s) (r : R s.heap v b) (q : Q b ρ H) : PostL X L R ρ H s Q v s :=
  done (s' := s) G (fun _ _ e => e) rfl rfl r q

/-- a name's value in the frame -/
theorem GL.name {L : Addr} {ρ : List (Str × AV)} {H : HM} {s : Shared} (G : GL X L ρ H s) : ∃ f, s.heap.Ns L f ∧ MapIs s.heap f ρ := (G.good.ob L (.ns ρ) (HM.put_self ..)).1
theorem GL.obj {L : Addr} {ρ : List (Str × AV)} {H : HM} {s : Shared} (G : GL X L ρ H s) {a : Addr} {ao : AO} (e : H a = some ao) : OIs prog w s.heap a ao :=
  (G.good.ob a ao (by rw [HM.put_ne]; exact e; intro q; subst q; rw [G.off] at e; cases e)).1
theorem GL.sobj {L : Addr} {ρ : List (Str × AV)} {H : HM} {s : Shared} (G : GL X L ρ H s) {a : Addr} {ao : AO} (e : X.S a = some ao) : OIs prog w s.heap a ao := (G.good.st a ao e).1
theorem GL.keep {L : Addr} {ρ : List (Str × AV)} {H : HM} {s : Shared} (G : GL X L ρ H s) : ∀ b o, X.h₀.get? b = some o → s.heap.get? b = some o := G.good.keep

/-- an object of H or of S -/
noncomputable def At (X : Cx prog w) (H : HM) (a : Addr) (ao : AO) : Prop := H a = some ao ∨ X.S a = some ao
theorem GL.at {L : Addr} {ρ : List (Str × AV)} {H : HM} {s : Shared} (G : GL X L ρ H s) {a : Addr} {ao : AO} (e : At X H a ao) : OIs prog w s.heap a ao := e.elim G.obj G.sobj
theorem GL.notSys {L : Addr} {ρ : List (Str × AV)} {H : HM} {s : Shared} (G : GL X L ρ H s) {a : Addr} {ao : AO} (e : H a = some ao) : (a == sysModules) = false := by
  obtain ⟨o, ho⟩ := X.sm
  have z := (G.good.ob a ao (by rw [HM.put_ne]; exact e; intro q; subst q; rw [G.off] at e; cases e)).2
  cases q : a == sysModules with
  | false => rfl
  | true => rw [beq_iff_eq.mp q, ho] at z; cases z

variable {nm : Str} {sc : Scope} {L fa : Addr} {cd : Value} {n : Nat} {ρ : List (Str × AV)} {H : HM}

/-- an expression's triple -/
noncomputable def EV (X : Cx prog w) (n : Nat) (nm : Str) (sc : Scope) (L fa : Addr) (cd : Value) (ρ : List (Str × AV)) (H : HM) (e : Expr) (Q : AV → HM → Prop) : Prop :=
  ∀ A s, AOk n A → GL X L ρ H s → wpAny (model prog w) A (eval e (envOf nm sc L fa cd)) (PostL X L Is ρ H s fun b ρ' H' => ρ' = ρ ∧ Q b H') NoE s
/-- a test's -/
noncomputable def TV (X : Cx prog w) (n : Nat) (nm : Str) (sc : Scope) (L fa : Addr) (cd : Value) (ρ : List (Str × AV)) (H : HM) (e : Expr) (Q : Bool → HM → Prop) : Prop :=
  ∀ A s, AOk n A → GL X L ρ H s → wpAny (model prog w) A (isTrue e (envOf nm sc L fa cd) (eval e (envOf nm sc L fa cd))) (PostL X L (fun _ a b => a = b) ρ H s fun b ρ' H' => ρ' = ρ ∧ Q b H') NoE s
/-- an expression that turns nothing -/
noncomputable abbrev PE (X : Cx prog w) (n : Nat) (nm : Str) (sc : Scope) (L fa : Addr) (cd : Value) (ρ : List (Str × AV)) (H : HM) (e : Expr) (a : AV) : Prop := EV X n nm sc L fa cd ρ H e fun b H' => b = a ∧ H' = H
noncomputable abbrev PT (X : Cx prog w) (n : Nat) (nm : Str) (sc : Scope) (L fa : Addr) (cd : Value) (ρ : List (Str × AV)) (H : HM) (e : Expr) (a : Bool) : Prop := TV X n nm sc L fa cd ρ H e fun b H' => b = a ∧ H' = H

theorem EV.mono {e : Expr} {Q Q' : AV → HM → Prop} (h : EV X n nm sc L fa cd ρ H e Q) (k : ∀ b H', Q b H' → Q' b H') : EV X n nm sc L fa cd ρ H e Q' :=
  fun A s a G => wpAny_mono (h A s a G) (fun _ _ p => p.mono fun _ _ _ q => ⟨q.1, k _ _ q.2⟩) fun _ _ e => e
theorem TV.mono {e : Expr} {Q Q' : Bool → HM → Prop} (h : TV X n nm sc L fa cd ρ H e Q) (k : ∀ b H', Q b H' → Q' b H') : TV X n nm sc L fa cd ρ H e Q' :=
  fun A s a G => wpAny_mono (h A s a G) (fun _ _ p => p.mono fun _ _ _ q => ⟨q.1, k _ _ q.2⟩) fun _ _ e => e
theorem EV.of_PE {e : Expr} {a : AV} {Q : AV → HM → Prop} (h : PE X n nm sc L fa cd ρ H e a) (q : Q a H) : EV X n nm sc L fa cd ρ H e Q := h.mono fun b H' ⟨e1, e2⟩ => by subst e1 e2; exact q
-- constants
theorem pe_int {i : Int} {k : Nat} {pos : Pos} : PE X n nm sc L fa cd ρ H (.Constant (.int i) k pos) (.int i) := fun _ _ _ G => wpAny_Constant_int (here G (.int _ _) ⟨rfl, rfl, rfl⟩)
theorem pe_str {x : Str} {k : Nat} {pos : Pos} : PE X n nm sc L fa cd ρ H (.Constant (.str x) k pos) (.str x) := fun _ _ _ G => wpAny_Constant_str (here G (.str _ _) ⟨rfl, rfl, rfl⟩)
theorem pe_bool {b : Bool} {k : Nat} {pos : Pos} : PE X n nm sc L fa cd ρ H (.Constant (.bool b) k pos) (.bool b) := fun _ _ _ G => wpAny_Constant_bool (here' G (.bool _) ⟨rfl, rfl, rfl⟩)
theorem pe_none {k : Nat} {pos : Pos} : PE X n nm sc L fa cd ρ H (.Constant .none k pos) .none := fun _ _ _ G => wpAny_Constant_none (here' G .none ⟨rfl, rfl, rfl⟩)

-- names
theorem pe_local {x : Str} {pos : Pos} {a : AV} (hv : ρ.lookup x = some a) (hk : sc.kind = .function := by rfl) (hl : (envOf nm sc L fa cd).kindOf x = some .local := by rfl) (hd : (x == ("__debug__" : Str)) = false := by decide) :
    PE X n nm sc L fa cd ρ H (.Name x pos) a := fun A s _ G => by
  obtain ⟨f, hns, hm⟩ := G.name
  obtain ⟨v, e, i⟩ := hm.get hv
  exact wpAny_Name (wpAny_loadName_local hk hl hns e (here' G i ⟨rfl, rfl, rfl⟩)) hd
theorem pe_global {x : Str} {pos : Pos} {v : Value} {a : AV} (hv : X.mg x = some v) (i : ∀ h, (∀ b o, X.h₀.get? b = some o → h.get? b = some o) → Is h v a) (hk : sc.kind = .function := by rfl)
    (hx : (envOf nm sc L fa cd).kindOf x = some .globalImplicit := by rfl) (hd : (x == ("__debug__" : Str)) = false := by decide) :
    PE X n nm sc L fa cd ρ H (.Name x pos) a := fun A s _ G =>
  Calls.Name_function_global hk hx (Calls.loadGlobal_global (env := envOf nm sc L fa cd) (X.g.keeps G.keep) hv (here' G (i _ G.keep) ⟨rfl, rfl, rfl⟩)) hd
theorem pe_builtin {x : Str} {pos : Pos} {v : Value} {a : AV} (hmiss : X.mg x = none) (hv : X.mb x = some v) (i : ∀ h, Is h v a) (hk : sc.kind = .function := by rfl)
    (hx : (envOf nm sc L fa cd).kindOf x = some .globalImplicit := by rfl) (hd : (x == ("__debug__" : Str)) = false := by decide) :
    PE X n nm sc L fa cd ρ H (.Name x pos) a := fun A s _ G =>
  Calls.Name_function_global hk hx (Calls.loadGlobal_builtin (env := envOf nm sc L fa cd) (X.g.keeps G.keep) hmiss (X.b.keeps G.keep) hv (here' G (i _) ⟨rfl, rfl, rfl⟩)) hd

theorem step {α β : Type} {A : Around} {L : Addr} {R : Heap → α → β → Prop} {ρ : List (Str × AV)} {H : HM} {s : Shared} {Q : β → List (Str × AV) → HM → Prop} {t : Sem α} {P : α → Shared → Prop}
    (h : wpAny (model prog w) A t (PostL X L R ρ H s Q) NoE s)
    (k : ∀ v b ρ1 H1 s1, R s1.heap v b → GL X L ρ1 H1 s1 → Ext (H.put L (.ns ρ)) s (H1.put L (.ns ρ1)) s1 → Q b ρ1 H1 → P v s1) : wpAny (model prog w) A t P NoE s :=
  wpAny_mono h (fun v s1 ⟨b, ρ1, H1, r, g, x, q⟩ => k v b ρ1 H1 s1 r g x q) fun _ _ e => e
theorem stepP {α β : Type} {A : Around} {L : Addr} {R : Heap → α → β → Prop} {ρ : List (Str × AV)} {H : HM} {s : Shared} {a : β} {t : Sem α} {P : α → Shared → Prop}
    (h : wpAny (model prog w) A t (PostL X L R ρ H s fun b ρ' H' => ρ' = ρ ∧ b = a ∧ H' = H) NoE s)
    (k : ∀ v s1, R s1.heap v a → GL X L ρ H s1 → Ext (H.put L (.ns ρ)) s (H.put L (.ns ρ)) s1 → P v s1) : wpAny (model prog w) A t P NoE s :=
  step h fun v b ρ1 H1 s1 r g x q => by
    obtain ⟨e1, e2, e3⟩ := q
    subst e1 e2 e3
    exact k v s1 r g x
theorem leaf {α β : Type} {A : Around} {L : Addr} {R : Heap → α → β → Prop} {ρ ρ1 : List (Str × AV)} {H H1 : HM} {s s1 : Shared} {Q : β → List (Str × AV) → HM → Prop} {t : Sem α}
    (x : Ext (H.put L (.ns ρ)) s (H1.put L (.ns ρ1)) s1) (h : wpAny (model prog w) A t (PostL X L R ρ1 H1 s1 Q) NoE s1) : wpAny (model prog w) A t (PostL X L R ρ H s Q) NoE s1 :=
  wpAny_mono h (fun v s2 ⟨b, ρ2, H2, r, g, y, q⟩ => ⟨b, ρ2, H2, r, g, x.trans y, q⟩) fun _ _ e => e
theorem leafP {α β : Type} {L : Addr} {R : Heap → α → β → Prop} {ρ ρ1 : List (Str × AV)} {H H1 : HM} {s s1 s2 : Shared} {Q : β → List (Str × AV) → HM → Prop} {v : α}
    (x : Ext (H.put L (.ns ρ)) s (H1.put L (.ns ρ1)) s1) (h : PostL X L R ρ1 H1 s1 Q v s2) : PostL X L R ρ H s Q v s2 := let ⟨b, ρ2, H2, r, g, y, q⟩ := h; ⟨b, ρ2, H2, r, g, x.trans y, q⟩

-- operations on ints
inductive ABin : Operator → AV → AV → AV → Prop
  | add (a b : Int) : ABin .Add (.int a) (.int b) (.int (a + b))
  | sub (a b : Int) : ABin .Sub (.int a) (.int b) (.int (a - b))
  | mul (a b : Int) (h : IntMulOk a b) : ABin .Mult (.int a) (.int b) (.int (a * b))
  | mod (a b : Int) (h : b ≠ 0) : ABin .Mod (.int a) (.int b) (.int (a.fmod b))
  | div (a b : Int) (h : b ≠ 0) (hp : Builtin.divisionGoesByPylong a b = false) : ABin .FloorDiv (.int a) (.int b) (.int (a.fdiv b))
theorem bin_sound {op : Operator} {a b c : AV} (h : ABin op a b c) {A : Around} {s : Shared} {v u : Value} (G : GL X L ρ H s) (i : Is s.heap v a) (j : Is s.heap u b) :
    wpAny (model prog w) A (binaryOp op v u) (PostL X L Is ρ H s fun x ρ' H' => ρ' = ρ ∧ x = c ∧ H' = H) NoE s := by
  cases h
  · apply i.int_elim; intro _; apply j.int_elim; intro _; exact PyProof.Rows.add_int (here G (.int _ _) ⟨rfl, rfl, rfl⟩)
  · apply i.int_elim; intro _; apply j.int_elim; intro _; exact PyProof.Rows.sub_int (here G (.int _ _) ⟨rfl, rfl, rfl⟩)
  · apply i.int_elim; intro _; apply j.int_elim; intro _; exact PyProof.Rows.mul_int (here G (.int _ _) ⟨rfl, rfl, rfl⟩) (by assumption)
  · apply i.int_elim; intro _; apply j.int_elim; intro _; exact PyProof.Rows.mod_int (by assumption) (here G (.int _ _) ⟨rfl, rfl, rfl⟩)
  · apply i.int_elim; intro _; apply j.int_elim; intro _; exact PyProof.Rows.floordiv_int (by assumption) (here G (.int _ _) ⟨rfl, rfl, rfl⟩) (hp := .inl (by assumption))
theorem pe_bin {l r : Expr} {op : Operator} {pos : Pos} {a b c : AV} (hl : PE X n nm sc L fa cd ρ H l a) (hr : PE X n nm sc L fa cd ρ H r b) (ho : ABin op a b c) : PE X n nm sc L fa cd ρ H (.BinOp l op r pos) c := fun A s ok G =>
  wpAny_BinOp (stepP (hl A s ok G) fun v s1 i1 G1 x1 => by
    refine stepP (hr A s1 ok G1) fun u s2 i2 G2 x2 => ?_
    exact leaf (x1.trans x2) (bin_sound ho G2 (i1.mono x2.tup) i2))

-- comparisons
inductive ACmp (X : Cx prog w) (H : HM) : CmpOp → AV → AV → Bool → Prop
  | eqI (a b : Int) : ACmp X H .Eq (.int a) (.int b) (a == b)
  | neI (a b : Int) : ACmp X H .NotEq (.int a) (.int b) (a != b)
  | ltI (a b : Int) : ACmp X H .Lt (.int a) (.int b) (decide (a < b))
  | leI (a b : Int) : ACmp X H .LtE (.int a) (.int b) (decide (a ≤ b))
  | gtI (a b : Int) : ACmp X H .Gt (.int a) (.int b) (decide (b < a))
  | geI (a b : Int) : ACmp X H .GtE (.int a) (.int b) (decide (b ≤ a))
  | eqS (a b : Str) : ACmp X H .Eq (.str a) (.str b) (a == b)
  | neS (a b : Str) : ACmp X H .NotEq (.str a) (.str b) (a != b)
  | isNN : ACmp X H .Is .none .none true
  | isTN (xs : List AV) : ACmp X H .Is (.tup xs) .none false
  | isnNN : ACmp X H .IsNot .none .none false
  | isnTN (xs : List AV) : ACmp X H .IsNot (.tup xs) .none true
theorem cmp_sound {op : CmpOp} {a b : AV} {c : Bool} (h : ACmp X H op a b c) {A : Around} {s : Shared} {v u : Value} (ok : AOk n A) (G : GL X L ρ H s) (i : Is s.heap v a) (j : Is s.heap u b) :
    wpAny (model prog w) A (compareOp op v u) (PostL X L Is ρ H s fun x ρ' H' => ρ' = ρ ∧ x = .bool c ∧ H' = H) NoE s := by
  cases h
  · apply i.int_elim; intro _; apply j.int_elim; intro _; exact PyProof.Rows.eq_int (here' G (.bool _) ⟨rfl, rfl, rfl⟩)
  · apply i.int_elim; intro _; apply j.int_elim; intro _; exact PyProof.Rows.ne_int (here' G (.bool _) ⟨rfl, rfl, rfl⟩)
  · apply i.int_elim; intro _; apply j.int_elim; intro _; exact PyProof.Rows.lt_int (here' G (.bool _) ⟨rfl, rfl, rfl⟩)
  · apply i.int_elim; intro _; apply j.int_elim; intro _; exact PyProof.Rows.le_int (here' G (.bool _) ⟨rfl, rfl, rfl⟩)
  · apply i.int_elim; intro _; apply j.int_elim; intro _; exact PyProof.Rows.gt_int (here' G (.bool _) ⟨rfl, rfl, rfl⟩)
  · apply i.int_elim; intro _; apply j.int_elim; intro _; exact PyProof.Rows.ge_int (here' G (.bool _) ⟨rfl, rfl, rfl⟩)
  · apply i.str_elim; intro _; apply j.str_elim; intro _; exact PyProof.Rows.eq_str (here' G (.bool _) ⟨rfl, rfl, rfl⟩)
  · apply i.str_elim; intro _; apply j.str_elim; intro _; exact PyProof.Rows.ne_str (here' G (.bool _) ⟨rfl, rfl, rfl⟩)
  · apply i.none_elim; apply j.none_elim; exact is_none_none (here' G (.bool _) ⟨rfl, rfl, rfl⟩)
  · apply i.tup_elim; intro _ _ _ _ _ _ _ _; apply j.none_elim; exact is_ref_none (here' G (.bool _) ⟨rfl, rfl, rfl⟩)
  · apply i.none_elim; apply j.none_elim; exact isnot_none_none (here' G (.bool _) ⟨rfl, rfl, rfl⟩)
  · apply i.tup_elim; intro _ _ _ _ _ _ _ _; apply j.none_elim; exact isnot_ref_none (here' G (.bool _) ⟨rfl, rfl, rfl⟩)
-- truth
inductive ATruth : AV → Bool → Prop
  | bool (b : Bool) : ATruth (.bool b) b
  | none : ATruth .none false
theorem truth_sound {a : AV} {c : Bool} (h : ATruth a c) {A : Around} {s : Shared} {v : Value} (G : GL X L ρ H s) (i : Is s.heap v a) :
    wpAny (model prog w) A (truthy v) (PostL X L (fun _ a b => a = b) ρ H s fun x ρ' H' => ρ' = ρ ∧ x = c ∧ H' = H) NoE s := by
  cases h
  · apply i.bool_elim; exact wpAny_truthy_bool (here' G rfl ⟨rfl, rfl, rfl⟩)
  · apply i.none_elim; exact truthy_none (here' G rfl ⟨rfl, rfl, rfl⟩)
theorem pt_plain {e : Expr} {a : AV} {c : Bool} (h : PE X n nm sc L fa cd ρ H e a) (t : ATruth a c)
    (he : isTrue e (envOf nm sc L fa cd) (eval e (envOf nm sc L fa cd)) = (do let v ← eval e (envOf nm sc L fa cd); standAt e.pos; holding [v] (truthy v)) := by rfl) : PT X n nm sc L fa cd ρ H e c := fun A s ok G =>
  isTrue_plain (stepP (h A s ok G) fun v s1 i1 G1 x1 => by
    exact leaf x1 (truth_sound t G1 i1)) he
theorem pt_not {e : Expr} {pos : Pos} {c : Bool} (h : PT X n nm sc L fa cd ρ H e c) : PT X n nm sc L fa cd ρ H (.UnaryOp .Not e pos) (!c) := fun A s ok G =>
  isTrue_not (stepP (h A s ok G) fun v s1 i1 G1 x1 => by
    subst i1
    exact leafP x1 (here' G1 rfl ⟨rfl, rfl, rfl⟩))
theorem tv_and_nil {pos : Pos} : PT X n nm sc L fa cd ρ H (.BoolOp .And [] pos) true := fun A s ok G => isTrue_and_nil (here' G rfl ⟨rfl, rfl, rfl⟩)
theorem tv_or_nil {pos : Pos} : PT X n nm sc L fa cd ρ H (.BoolOp .Or [] pos) false := fun A s ok G => isTrue_or_nil (here' G rfl ⟨rfl, rfl, rfl⟩)
theorem pt_and {e : Expr} {rest : List Expr} {pos : Pos} {c d : Bool} (h : PT X n nm sc L fa cd ρ H e c) (r : c = true → PT X n nm sc L fa cd ρ H (.BoolOp .And rest pos) d) : PT X n nm sc L fa cd ρ H (.BoolOp .And (e :: rest) pos) (c && d) := fun A s ok G =>
  isTrue_and (stepP (h A s ok G) fun v s1 i1 G1 x1 => by
    subst i1
    cases v with
    | false => exact leafP x1 (here' (R := fun _ a b => a = b) G1 rfl ⟨rfl, rfl, rfl⟩)
    | true => exact leaf x1 (r rfl A s1 ok G1))
theorem pt_or {e : Expr} {rest : List Expr} {pos : Pos} {c d : Bool} (h : PT X n nm sc L fa cd ρ H e c) (r : c = false → PT X n nm sc L fa cd ρ H (.BoolOp .Or rest pos) d) : PT X n nm sc L fa cd ρ H (.BoolOp .Or (e :: rest) pos) (c || d) := fun A s ok G =>
  isTrue_or (stepP (h A s ok G) fun v s1 i1 G1 x1 => by
    subst i1
    cases v with
    | true => exact leafP x1 (here' (R := fun _ a b => a = b) G1 rfl ⟨rfl, rfl, rfl⟩)
    | false => exact leaf x1 (r rfl A s1 ok G1))
theorem pe_ifexp {t b o : Expr} {pos : Pos} {c : Bool} {x : AV} (h : PT X n nm sc L fa cd ρ H t c) (hb : c = true → PE X n nm sc L fa cd ρ H b x) (ho : c = false → PE X n nm sc L fa cd ρ H o x) : PE X n nm sc L fa cd ρ H (.IfExp t b o pos) x := fun A s ok G =>
  IfExp_ (stepP (h A s ok G) fun v s1 i1 G1 x1 => by
    subst i1
    cases v with
    | true => exact leaf x1 (hb rfl A s1 ok G1)
    | false => exact leaf x1 (ho rfl A s1 ok G1))
-- «a and b», «a or b» as values
theorem pe_bool1 {op : BoolOp} {e : Expr} {pos : Pos} {x : AV} (h : PE X n nm sc L fa cd ρ H e x) : PE X n nm sc L fa cd ρ H (.BoolOp op [e] pos) x := fun A s ok G => BoolOp_one (h A s ok G)
theorem pe_and {e e' : Expr} {rest : List Expr} {pos : Pos} {a x : AV} {c : Bool} (h : PE X n nm sc L fa cd ρ H e a) (t : ATruth a c) (hf : c = false → x = a) (r : c = true → PE X n nm sc L fa cd ρ H (.BoolOp .And (e' :: rest) pos) x) :
    PE X n nm sc L fa cd ρ H (.BoolOp .And (e :: e' :: rest) pos) x := fun A s ok G =>
  BoolOp_and (stepP (h A s ok G) fun v s1 i1 G1 x1 => by
    refine step (truth_sound t G1 i1) fun c' _ _ _ s2 i2 G2 x2 pq0 => ?_
    obtain ⟨e1, e2, e3⟩ := pq0
    subst e1 e2 e3 i2
    cases c' with
    | true => exact leaf (x1.trans x2) (r rfl A s2 ok G2)
    | false => exact leafP (x1.trans x2) (here' G2 ((hf rfl) ▸ i1.mono x2.tup) ⟨rfl, rfl, rfl⟩))
end

-- TCall
section
variable {prog : Program} {w : World} {X : Cx prog w}
variable {nm : Str} {sc : Scope} {L fa : Addr} {cd : Value} {n : Nat} {ρ : List (Str × AV)} {H : HM}

theorem Is.tuple {h : Heap} {vs : List Value} {xs : List AV} (hs : h.get? a = some { cls := .type "tuple", data := .seq vs.toArray }) (l : IsL h vs xs) : Is h (.ref a) (.tup xs) := .tup hs rfl rfl l

theorem IsL.grow {h h' : Heap} (k : ∀ b o, h.get? b = some o → h'.get? b = some o) {vs : List Value} {xs : List AV} (l : IsL h vs xs) : IsL h' vs xs := l.mono fun a o e _ => k a o e

/-- several pure expressions -/
inductive PEs (X : Cx prog w) (n : Nat) (nm : Str) (sc : Scope) (L fa : Addr) (cd : Value) (ρ : List (Str × AV)) (H : HM) : List Expr → List AV → Prop
  | nil : PEs X n nm sc L fa cd ρ H [] []
  | cons {e : Expr} {es : List Expr} {a : AV} {as : List AV} : PE X n nm sc L fa cd ρ H e a → starEach (e :: es) (envOf nm sc L fa cd) = (false, eval e (envOf nm sc L fa cd)) :: starEach es (envOf nm sc L fa cd) → PEs X n nm sc L fa cd ρ H es as → PEs X n nm sc L fa cd ρ H (e :: es) (a :: as)
theorem PEs.one {e : Expr} {es : List Expr} {a : AV} {as : List AV} (h : PE X n nm sc L fa cd ρ H e a) (r : PEs X n nm sc L fa cd ρ H es as) (hs : starEach (e :: es) (envOf nm sc L fa cd) = (false, eval e (envOf nm sc L fa cd)) :: starEach es (envOf nm sc L fa cd) := by rfl) :
    PEs X n nm sc L fa cd ρ H (e :: es) (a :: as) := .cons h hs r
theorem spliced_sound {pos : Pos} : ∀ {es : List Expr} {as : List AV}, PEs X n nm sc L fa cd ρ H es as → ∀ {A : Around} {s : Shared}, AOk n A → GL X L ρ H s →
    wpAny (model prog w) A (spliced (backTo pos (starEach es (envOf nm sc L fa cd)))) (PostL X L IsL ρ H s fun xs ρ' H' => ρ' = ρ ∧ xs = as ∧ H' = H) NoE s
  | _, _, .nil, A, s, ok, G => args_nil (here' G .nil ⟨rfl, rfl, rfl⟩)
  | _, _, .cons (e := e) (es := es) h hs r, A, s, ok, G => args_cons (he := hs) (step (h A s ok G) fun v _ _ _ s1 i1 G1 x1 ⟨e1, e2, e3⟩ => by
      replace e1 := e1.symm; replace e2 := e2.symm; replace e3 := e3.symm
      subst e1 e2 e3
      refine stepP (spliced_sound r ok G1) fun vs s2 i2 G2 x2 => ?_
      exact leafP (x1.trans x2) (here' G2 (.cons (i1.mono x2.tup) i2) ⟨rfl, rfl, rfl⟩))

theorem pe_tuple {es : List Expr} {k : Nat} {pos : Pos} {as : List AV} (h : PEs X n nm sc L fa cd ρ H es as) (hz : as.length ≤ 1000 := by decide) : PE X n nm sc L fa cd ρ H (.Tuple es k pos) (.tup as) := fun A s ok G =>
  Tuple_ (stepP (spliced_sound h ok G) fun vs s1 i1 G1 x1 => by
    refine wpAny_newTuple (leafP x1 (done (s' := { s1 with heap := s1.heap.push { cls := .type "tuple", data := .seq vs.toArray } }) G1 (fun b o e => Heap.get?_push_of_some _ e) rfl rfl (Is.tuple (Heap.get?_push_size _ rfl) (i1.grow fun b o e => Heap.get?_push_of_some _ e)) ⟨rfl, rfl, rfl⟩)) ?_
    have := i1.length
    rw [sizeLine_eq]; omega)

-- calls
noncomputable def CL (X : Cx prog w) (n : Nat) (f : Value) (args : List AV) (H : HM) (Q : AV → HM → Prop) : Prop :=
  ∀ A s vs, AOk n A → Good prog w X.h₀ X.S H s → IsL s.heap vs args → wpAny (model prog w) A (call f vs) (fun v s' => ∃ b H', Is s'.heap v b ∧ Good prog w X.h₀ X.S H' s' ∧ Ext H s H' s' ∧ Q b H') NoE s
/-- a call that turns nothing -/
noncomputable abbrev PC (X : Cx prog w) (n : Nat) (f : Value) (args : List AV) (H : HM) (a : AV) : Prop := CL X n f args H fun b H' => b = a ∧ H' = H
theorem CL.mono {f : Value} {args : List AV} {Q Q' : AV → HM → Prop} (h : CL X n f args H Q) (k : ∀ b H', Q b H' → Q' b H') : CL X n f args H Q' := fun A s vs ok G i =>
  wpAny_mono (h A s vs ok G i) (fun v s' ⟨b, H', i, g, x, q⟩ => ⟨b, H', i, g, x, k _ _ q⟩) fun _ _ e => e
theorem CL.thenP {f : Value} {args : List AV} {H H1 : HM} {a : AV} {Q : AV → HM → Prop} (h : CL X n f args H fun b H' => b = a ∧ H' = H1) (k : Q a H1) : CL X n f args H Q :=
  h.mono fun b H' q => by obtain ⟨e1, e2⟩ := q; subst e1 e2; exact k
theorem CL.thenH {f : Value} {args : List AV} {H H1 : HM} {Q : AV → HM → Prop} (h : CL X n f args H fun _ H' => H' = H1) (k : ∀ b, Q b H1) : CL X n f args H Q :=
  h.mono fun b H' e => by subst e; exact k b
theorem CL.less {m : Nat} {f : Value} {args : List AV} {Q : AV → HM → Prop} (h : CL X m f args H Q) (k : m ≤ n) : CL X n f args H Q := fun A s vs ok G i => h A s vs (ok.less k) G i

theorem GL.glob {s : Shared} (G : GL X L ρ H s) : Good prog w X.h₀ X.S H s := G.good.less fun a ao e => by
  rw [HM.put_ne]; exact e
  intro q; subst q; rw [G.off] at e; cases e
theorem frame_back {H' : HM} {s s' : Shared} (G : GL X L ρ H s) (g : Good prog w X.h₀ X.S H' s') (x : Ext H s H' s') : GL X L ρ H' s' ∧ Ext (H.put L (.ns ρ)) s (H'.put L (.ns ρ)) s' := by
  have z := G.good.ob L (.ns ρ) (HM.put_self ..)
  obtain ⟨o, e, _⟩ := z.1.there
  have off : H' L = none := by
    cases q : H' L with
    | none => rfl
    | some u => have := x.dom L (by rw [q]; exact fun e => nomatch e) G.off; rw [e] at this; cases this
  refine ⟨⟨off, g.keep, fun a ao q => ?_, fun a ao q => ?_, g.gens⟩, ⟨fun b o e n => ?_, x.tup, fun b n n' => ?_, x.os, x.there⟩⟩
  · have y := G.good.st a ao q
    have ne : a ≠ L := fun q => by subst q; rw [HM.put_self] at y; cases y.2
    exact ⟨(g.st a ao q).1, (HM.put_ne _ _ ne).trans (g.st a ao q).2⟩
  · by_cases ne : a = L
    · subst ne
      rw [HM.put_self] at q; cases q
      exact ⟨z.1.move x.tup fun o e => x.kept _ o e G.off, z.2⟩
    · rw [HM.put_ne _ _ ne] at q; exact g.ob a ao q
  · have ne : b ≠ L := fun q => by subst q; rw [HM.put_self] at n; cases n
    rw [HM.put_ne _ _ ne] at n
    exact x.kept b o e n
  · have ne : b ≠ L := fun q => by subst q; rw [HM.put_self] at n'; cases n'
    rw [HM.put_ne _ _ ne] at n n'
    exact x.dom b n n'

/-- the function object of a def -/
structure FnAt (X : Cx prog w) (f : Addr) (fd : FuncData) : Prop where
  ob : ∃ o, X.h₀.get? f = some o ∧ o.data = .func fd
  code : X.h₀.CodeRec fd.code fd.qualname

theorem call_back {f : Value} {args : List AV} {Q : AV → HM → Prop} (h : CL X n f args H Q) {A : Around} {s : Shared} {vs : List Value} (ok : AOk n A) (G : GL X L ρ H s) (i : IsL s.heap vs args) :
    wpAny (model prog w) A (call f vs) (PostL X L Is ρ H s fun b ρ' H' => ρ' = ρ ∧ Q b H') NoE s :=
  wpAny_mono (h A s vs ok G.glob i) (fun v s' ⟨b, H', i, g, x, q⟩ => let ⟨g', x'⟩ := frame_back G g x; ⟨b, ρ, H', i, g', x', rfl, q⟩) fun _ _ e => e

theorem ev_call {func : Expr} {args : List Expr} {pos : Pos} {f : Addr} {fd : FuncData} {as : List AV} {Q : AV → HM → Prop} (F : FnAt X f fd) (hf : PE X n nm sc L fa cd ρ H func (.ref f)) (ha : PEs X n nm sc L fa cd ρ H args as) (hc : CL X n (.ref f) as H Q)
    (hne : args ≠ [] := by simp) (he : eval (.Call func args [] pos) (envOf nm sc L fa cd) = (do callWith pos (← eval func (envOf nm sc L fa cd)) [] (backTo pos (starEach args (envOf nm sc L fa cd))) (backToKw pos (keywordEach [] (envOf nm sc L fa cd)))) := by rfl) :
    EV X n nm sc L fa cd ρ H (.Call func args [] pos) Q := fun A s ok G =>
  Call_ (he := he) (stepP (hf A s ok G) fun v s1 i1 G1 x1 => by
    first | apply i1.ref_elim | apply i1.bool_elim | apply i1.ty_elim | apply i1.bi_elim | cases i1
    obtain ⟨o, ho, hd⟩ := F.ob
    cases ha with
    | nil => exact absurd rfl hne
    | cons h hs r =>
      refine callWith_def hd (he := hs) (stepP (spliced_sound (.cons h hs r) ok G1) fun vs s2 i2 G2 x2 => ?_)
      exact ⟨G2.keep _ _ ho, leaf (x1.trans x2) (call_back hc ok G2 i2)⟩)

/-- a built-in function's call -/
theorem ev_bcall {func : Expr} {args : List Expr} {pos : Pos} {id : String} {as : List AV} {Q : AV → HM → Prop} (hf : PE X n nm sc L fa cd ρ H func (.bi id)) (ha : PEs X n nm sc L fa cd ρ H args as) (hc : CL X n (.builtin id) as H Q)
    (hplain : (backTo pos (starEach args (envOf nm sc L fa cd))).any (·.1) = false := by rfl)
    (hne : args ≠ [] := by simp) (he : eval (.Call func args [] pos) (envOf nm sc L fa cd) = (do callWith pos (← eval func (envOf nm sc L fa cd)) [] (backTo pos (starEach args (envOf nm sc L fa cd))) (backToKw pos (keywordEach [] (envOf nm sc L fa cd)))) := by rfl) :
    EV X n nm sc L fa cd ρ H (.Call func args [] pos) Q := fun A s ok G =>
  Call_ (he := he) (stepP (hf A s ok G) fun v s1 i1 G1 x1 => by
    first | apply i1.ref_elim | apply i1.bool_elim | apply i1.ty_elim | apply i1.bi_elim | cases i1
    cases ha with
    | nil => exact absurd rfl hne
    | cons h hs r =>
      rw [hs] at hplain
      refine callWith_builtin1 (he := hs) (hplain := (Bool.or_eq_false_iff.mp hplain).2) (stepP (spliced_sound (.cons h hs r) ok G1) fun vs s2 i2 G2 x2 => ?_)
      exact leaf (x1.trans x2) (call_back hc ok G2 i2))
end

-- TStmt
section
variable {prog : Program} {w : World} {X : Cx prog w}
variable {nm : Str} {sc : Scope} {L fa : Addr} {cd : Value} {n : Nat} {ρ : List (Str × AV)} {H : HM}

/-- a store of one name -/
theorem name_sound {x : Str} {A : Around} {s : Shared} {v : Value} {a : AV} (G : GL X L ρ H s) (i : Is s.heap v a) {Q : Unit → List (Str × AV) → HM → Prop} (q : Q () ((x, a) :: ρ) H)
    (hl : (envOf nm sc L fa cd).kindOf x = some .local := by rfl) (hk : sc.kind = .function := by rfl) :
    wpAny (model prog w) A (storeName (envOf nm sc L fa cd) x v) (PostL X L (fun _ _ _ => True) ρ H s Q) NoE s := by
  obtain ⟨f, hns, hm⟩ := G.name
  refine wpAny_storeName_local hl hns (fun h' hn hs => ?_) (by show (sc.kind == .class || (sc.kind == .module && L != mainGlobals)) = false; rw [hk]; rfl)
  have tk : TupKept s.heap h' := fun b o e t => by
    have z := G.good.ob L (.ns ρ) (HM.put_self ..)
    obtain ⟨o₁, e₁, n₁⟩ := z.1.there
    by_cases q : b = L
    · subst q; rw [e₁] at e; cases e; exact absurd t n₁
    · rw [hs.2 b q]; exact e
  obtain ⟨g, e⟩ := G.good.update (s' := { s with heap := h', toks := s.toks + 1 }) (a := L) (ao := .ns ((x, a) :: ρ)) ⟨_, HM.put_self ..⟩ hs ⟨_, hn, (hm.mono tk).cons (i.mono tk)⟩ rfl rfl
  have hp : (H.put L (.ns ρ)).put L (.ns ((x, a) :: ρ)) = H.put L (.ns ((x, a) :: ρ)) := by
    funext b; unfold HM.put; split <;> rfl
  rw [hp] at g e
  exact ⟨(), (x, a) :: ρ, H, trivial, ⟨G.off, g⟩, e, q⟩

/-- what is stored where -/
inductive SetIt (H : HM) : AV → AV → AV → HM → Prop
  | sd {d : Addr} {m : List (Str × AV)} {k : Str} {v : AV} (h : H d = some (.sd m)) (hz : m.length ≤ 1000) : SetIt H (.ref d) (.str k) v (H.put d (.sd (storeA m k v)))
  | td {d : Addr} {m : List (List Int × AV)} {k : List Int} {v : AV} (h : H d = some (.td m)) (hz : m.length ≤ 1000) : SetIt H (.ref d) (.tup (k.map .int)) v (H.put d (.td (storeA m k v)))
  | arr {d : Addr} {xs : List AV} {i : Int} {v : AV} (h : H d = some (.arr xs)) (h0 : 0 ≤ i) (h1 : i < xs.length) (hz : xs.length ≤ 1000) : SetIt H (.ref d) (.int i) v (H.put d (.arr (xs.set i.toNat v)))

theorem key_of {h : Heap} {v : Value} {k : List Int} (i : Is h v (.tup (k.map .int))) : ∃ a, v = .ref a ∧ IsTupleKey (intKind prog w) h k a := by
  cases i with
  | tup e c d l =>
    refine ⟨_, rfl, _, _, _, e, c, d, ?_⟩
    clear e d
    generalize (_ : Array Value).toList = vs at l
    induction k generalizing vs with
    | nil => cases l; exact .nil
    | cons x k ih =>
      cases l with
      | cons a b => cases a; exact .cons (by show decide _ = true; simp) (ih _ b)
theorem SdIs.length {h : Heap} : ∀ {xs m}, SdIs h xs m → xs.length = m.length
  | _, _, .nil => rfl
  | _, _, .cons a b => by simp [SdIs.length b]
theorem TdIs.length {h : Heap} : ∀ {xs m}, TdIs h xs m → xs.length = m.length
  | _, _, .nil => rfl
  | _, _, .cons a b => by simp [TdIs.length b]
theorem IsL.set {h : Heap} : ∀ {vs : List Value} {xs : List AV} (_ : IsL h vs xs) (i : Nat) {v : Value} {x : AV}, Is h v x → IsL h (vs.set i v) (xs.set i x)
  | _, _, .nil, i, _, _, _ => by simpa using IsL.nil
  | _, _, .cons a b, 0, _, _, z => .cons z b
  | _, _, .cons a b, i + 1, _, _, z => .cons a (IsL.set b i z)

theorem tk_of {L : Addr} {s : Shared} {h' : Heap} {a : Addr} {ao : AO} (z : OIs prog w s.heap a ao) (hs : Heap.SameBut a s.heap h') : TupKept s.heap h' := fun b o e t => by
  obtain ⟨o₁, e₁, n₁⟩ := z.there
  by_cases q : b = a
  · subst q; rw [e₁] at e; cases e; exact absurd t n₁
  · rw [hs.2 b q]; exact e
theorem put_comm {H : HM} {L a : Addr} {x y : AO} (ne : a ≠ L) : (H.put L x).put a y = (H.put a y).put L x := by
  funext b; unfold HM.put
  by_cases h1 : b = a
  · subst h1; simp [ne]
  · by_cases h2 : b = L
    · subst h2; simp [h1]
    · simp [h1, h2]
/-- one object turned, under a frame -/
theorem GL.upd {s s' : Shared} {a : Addr} {o ao : AO} (G : GL X L ρ H s) (ha : H a = some o) (hs : Heap.SameBut a s.heap s'.heap) (h' : OIs prog w s'.heap a ao) (hg : s'.gens = s.gens) (ho : s'.os = s.os) :
    GL X L ρ (H.put a ao) s' ∧ Ext (H.put L (.ns ρ)) s ((H.put a ao).put L (.ns ρ)) s' := by
  have ne : a ≠ L := fun q => by subst q; rw [G.off] at ha; cases ha
  obtain ⟨g, e⟩ := G.good.update (a := a) (ao := ao) ⟨o, by rw [HM.put_ne _ _ ne]; exact ha⟩ hs h' hg ho
  rw [put_comm ne] at g e
  exact ⟨⟨by rw [HM.put_ne _ _ (Ne.symm ne)]; exact G.off, g⟩, e⟩
theorem setit_sound {ov iv v : AV} {H' : HM} (h : SetIt H ov iv v H') {A : Around} {s : Shared} {vo vi vv : Value} (ok : AOk (n + 1) A) (G : GL X L ρ H s) (io : Is s.heap vo ov) (ii : Is s.heap vi iv) (i : Is s.heap vv v) :
    wpAny (model prog w) A (setItem vo vi vv) (PostL X L (fun _ _ (_ : Unit) => True) ρ H s fun _ ρ' H'' => ρ' = ρ ∧ H'' = H') NoE s := by
  cases h with
  | sd h hz =>
    apply io.ref_elim; apply ii.str_elim; intro _
    obtain ⟨kvs, hd, hm⟩ := G.obj h
    refine wpAny_setItem_pairs (strKind_is prog w _ _) hd (fun h' hd' hs' => ?_) (by rw [hm.length, sizeLine_eq]; omega)
    have tk := tk_of (L := L) (G.obj h) hs'
    obtain ⟨g, e⟩ := G.upd (s' := { s with heap := h', toks := s.toks + 1 }) (ao := .sd (storeA _ _ v)) h hs' ⟨_, hd', (hm.mono tk).store (i.mono tk) (by obtain ⟨_, _, _, _, _, _, _, hn⟩ := hd; exact hn.2)⟩ rfl rfl
    exact ⟨(), ρ, _, trivial, g, e, rfl, rfl⟩
  | td h hz =>
    apply io.ref_elim
    obtain ⟨ka, rfl, hk⟩ := key_of (prog := prog) (w := w) ii
    obtain ⟨xs, hd, hm⟩ := G.obj h
    refine wpAny_setItem_heap (knd := tkind prog w) (by show A.units + 1 < cLine; rw [cLine_is]; have := ok.un; omega) hk hd (fun h' hd' hs' => ?_) (by rw [hm.length, sizeLine_eq]; omega)
    have tk := tk_of (L := L) (G.obj h) hs'
    obtain ⟨g, e⟩ := G.upd (s' := { s with heap := h', toks := _ }) (ao := .td (storeA _ _ v)) h hs' ⟨_, hd', (hm.mono tk).store (i.mono tk) (by obtain ⟨_, _, _, _, _, _, _, _, hn⟩ := hd; exact hn)⟩ rfl rfl
    exact ⟨(), ρ, _, trivial, g, e, rfl, rfl⟩
  | arr h h0 h1 hz =>
    apply io.ref_elim; apply ii.int_elim; intro _
    obtain ⟨items, hl, li⟩ := G.obj h
    have hlen : items.size = _ := (Array.length_toList).symm.trans li.length
    refine wpAny_setItem_list hl h0 (by omega) (by omega) fun h' hl' hs' => ?_
    have tk := tk_of (L := L) (G.obj h) hs'
    obtain ⟨g, e⟩ := G.upd (s' := { s with heap := h' }) (ao := .arr (_)) h hs' ⟨_, hl', by rw [Array.toList_setIfInBounds]; exact (li.mono tk).set _ (i.mono tk)⟩ rfl rfl
    exact ⟨(), ρ, _, trivial, g, e, rfl, rfl⟩

-- targets
noncomputable def TG (X : Cx prog w) (n : Nat) (nm : Str) (sc : Scope) (L fa : Addr) (cd : Value) (ρ : List (Str × AV)) (H : HM) (t : Expr) (a : AV) (Q : List (Str × AV) → HM → Prop) : Prop :=
  ∀ A s v, AOk (n + 1) A → GL X L ρ H s → Is s.heap v a → wpAny (model prog w) A (assign t (envOf nm sc L fa cd) v) (PostL X L (fun _ _ (_ : Unit) => True) ρ H s fun _ ρ' H' => Q ρ' H') NoE s
theorem tg_name {x : Str} {p : Pos} {a : AV} {Q : List (Str × AV) → HM → Prop} (q : Q ((x, a) :: ρ) H) (hl : (envOf nm sc L fa cd).kindOf x = some .local := by rfl) (hk : sc.kind = .function := by rfl) :
    TG X n nm sc L fa cd ρ H (.Name x p) a Q := fun A s v ok G i => wpAny_assign_Name (name_sound G i q hl hk)
theorem tg_sub {o i : Expr} {p : Pos} {ov iv a : AV} {H' : HM} {Q : List (Str × AV) → HM → Prop} (ho : PE X (n + 1) nm sc L fa cd ρ H o ov) (hi : PE X (n + 1) nm sc L fa cd ρ H i iv) (hs : SetIt H ov iv a H') (q : Q ρ H')
    (he : ∀ v, assign (.Subscript o i p) (envOf nm sc L fa cd) v = (do let ov ← holding [v] (eval o (envOf nm sc L fa cd)); let iv ← holding [v, ov] (eval i (envOf nm sc L fa cd)); standAt p; holding [v, ov, iv] (setItem ov iv v); release [v, ov, iv] []) := by intro _; rfl) :
    TG X n nm sc L fa cd ρ H (.Subscript o i p) a Q := fun A s v ok G j => by
  rw [he]
  refine wpAny_bind (wpAny_holding (stepP (ho A s ok G) fun vo s1 i1 G1 x1 => ?_))
  refine wpAny_bind (wpAny_holding (stepP (hi A s1 ok G1) fun vi s2 i2 G2 x2 => ?_))
  refine wpAny_bind (wpAny_standAt (wpAny_bind (wpAny_holding (step (setit_sound hs ok G2 (i1.mono x2.tup) i2 ((j.mono x1.tup).mono x2.tup)) fun _ _ _ _ s3 i3 G3 x3 ⟨e1, e2⟩ => ?_))))
  subst e1 e2
  exact wpAny_release (leafP ((x1.trans x2).trans x3) (here' (R := fun _ _ (_ : Unit) => True) (b := ()) G3 trivial q))

/-- several targets in order -/
noncomputable def TGs (X : Cx prog w) (n : Nat) (nm : Str) (sc : Scope) (L fa : Addr) (cd : Value) (ρ : List (Str × AV)) (H : HM) (ts : List Expr) (as : List AV) (Q : List (Str × AV) → HM → Prop) : Prop :=
  ∀ A s vs, AOk (n + 1) A → GL X L ρ H s → IsL s.heap vs as → wpAny (model prog w) A (assignInOrder ((assignEach ts (envOf nm sc L fa cd)).map (·.2)) vs) (PostL X L (fun _ _ (_ : Unit) => True) ρ H s fun _ ρ' H' => Q ρ' H') NoE s
theorem tgs_nil {Q : List (Str × AV) → HM → Prop} (q : Q ρ H) : TGs X n nm sc L fa cd ρ H [] [] Q := fun A s vs ok G i => by
  first | apply i.ref_elim | apply i.bool_elim | apply i.ty_elim | apply i.bi_elim | cases i
  exact wpAny_pure (here' (R := fun _ _ (_ : Unit) => True) (b := ()) G trivial q)
theorem tgs_cons {t : Expr} {ts : List Expr} {a : AV} {as : List AV} {Q : List (Str × AV) → HM → Prop} (h : TG X n nm sc L fa cd ρ H t a fun ρ' H' => TGs X n nm sc L fa cd ρ' H' ts as Q)
    (he : assignEach (t :: ts) (envOf nm sc L fa cd) = (false, assign t (envOf nm sc L fa cd)) :: assignEach ts (envOf nm sc L fa cd) := by rfl) : TGs X n nm sc L fa cd ρ H (t :: ts) (a :: as) Q := fun A s vs ok G i => by
  cases i with
  | cons i1 il =>
    rw [he]
    show wpAny _ _ (do holding _ (assign t _ _); assignInOrder _ _) _ _ _
    refine wpAny_bind (wpAny_holding (step (h A s _ ok G i1) fun _ _ ρ1 H1 s1 _ G1 x1 q => ?_))
    exact leaf x1 (q A s1 _ ok G1 (il.mono x1.tup))
theorem tg_tuple {ts : List Expr} {k : Nat} {p : Pos} {as : List AV} {Q : List (Str × AV) → HM → Prop} (h : TGs X n nm sc L fa cd ρ H ts as Q) (hn : ts.length = as.length := by rfl)
    (hl : (assignEach ts (envOf nm sc L fa cd)).length = ts.length := by rfl) (hstar : (assignEach ts (envOf nm sc L fa cd)).findIdx? (·.1) = none := by rfl) : TG X n nm sc L fa cd ρ H (.Tuple ts k p) (.tup as) Q := fun A s v ok G i => by
  cases i with
  | tup e c d l =>
    refine wpAny_assign_Tuple ok.hd ⟨_, e, c, _, d⟩ (by rw [hl, hn, ← l.length, Array.length_toList]) hstar fun h' hx => ?_
    have k : ∀ b o, s.heap.get? b = some o → h'.get? b = some o := fun b o e => hx b o (Nat.ne_of_lt (Heap.lt_size e)) e
    obtain ⟨G', x'⟩ := G.grow (s' := { s with heap := h' }) k rfl rfl
    exact leaf x' (h A _ _ ok G' (l.mono x'.tup))

-- statements
inductive AF where
  | next | brk | cont | ret (a : AV)
inductive FIs (h : Heap) : Flow → AF → Prop
  | next : FIs h .next .next
  | brk : FIs h .brk .brk
  | cont : FIs h .cont .cont
  | ret {v : Value} {a : AV} : Is h v a → FIs h (.ret v) (.ret a)
noncomputable def EX (X : Cx prog w) (n : Nat) (nm : Str) (sc : Scope) (L fa : Addr) (cd : Value) (ρ : List (Str × AV)) (H : HM) (st : Stmt) (Q : AF → List (Str × AV) → HM → Prop) : Prop :=
  ∀ A s, AOk (n + 1) A → GL X L ρ H s → wpAny (model prog w) A (exec st (envOf nm sc L fa cd)) (PostL X L FIs ρ H s Q) NoE s
noncomputable def EXS (X : Cx prog w) (n : Nat) (nm : Str) (sc : Scope) (L fa : Addr) (cd : Value) (ρ : List (Str × AV)) (H : HM) (st : List Stmt) (Q : AF → List (Str × AV) → HM → Prop) : Prop :=
  ∀ A s, AOk (n + 1) A → GL X L ρ H s → wpAny (model prog w) A (execs st (envOf nm sc L fa cd)) (PostL X L FIs ρ H s Q) NoE s
theorem EX.mono {st : Stmt} {Q Q' : AF → List (Str × AV) → HM → Prop} (h : EX X n nm sc L fa cd ρ H st Q) (k : ∀ f ρ' H', Q f ρ' H' → Q' f ρ' H') : EX X n nm sc L fa cd ρ H st Q' :=
  fun A s a G => wpAny_mono (h A s a G) (fun _ _ p => p.mono k) fun _ _ e => e
theorem EXS.mono {st : List Stmt} {Q Q' : AF → List (Str × AV) → HM → Prop} (h : EXS X n nm sc L fa cd ρ H st Q) (k : ∀ f ρ' H', Q f ρ' H' → Q' f ρ' H') : EXS X n nm sc L fa cd ρ H st Q' :=
  fun A s a G => wpAny_mono (h A s a G) (fun _ _ p => p.mono k) fun _ _ e => e

theorem exs_nil {Q : AF → List (Str × AV) → HM → Prop} (q : Q .next ρ H) : EXS X n nm sc L fa cd ρ H [] Q := fun A s ok G => wpAny_execs_nil (here' G .next q)
/-- what goes on behind a statement -/
noncomputable def Then (Q R : AF → List (Str × AV) → HM → Prop) : AF → List (Str × AV) → HM → Prop := fun f ρ H => match f with
  | .next => R .next ρ H
  | f => Q f ρ H
theorem exs_cons {st : Stmt} {rest : List Stmt} {Q : AF → List (Str × AV) → HM → Prop} (h : EX X n nm sc L fa cd ρ H st fun f ρ' H' => match f with | .next => EXS X n nm sc L fa cd ρ' H' rest Q | f => Q f ρ' H') :
    EXS X n nm sc L fa cd ρ H (st :: rest) Q := fun A s ok G =>
  wpAny_execs_cons (step (h A s ok G) fun f b ρ1 H1 s1 i G1 x1 q => by
    cases i with
    | next => exact leaf x1 (q A s1 ok G1)
    | brk => exact leafP x1 (here' G1 .brk q)
    | cont => exact leafP x1 (here' G1 .cont q)
    | ret i => exact leafP x1 (here' G1 (.ret i) q))
theorem ex_name {x : Str} {p pos : Pos} {e : Expr} {Q : AF → List (Str × AV) → HM → Prop} (h : EV X (n + 1) nm sc L fa cd ρ H e fun a H' => Q .next ((x, a) :: ρ) H')
    (hs : swapsWith e (some (.Name x p)) pos.line (envOf nm sc L fa cd) = pure false := by rfl) (hl : (envOf nm sc L fa cd).kindOf x = some .local := by rfl) (hk : sc.kind = .function := by rfl) :
    EX X n nm sc L fa cd ρ H (.Assign [.Name x p] e pos) Q := fun A s ok G =>
  wpAny_Assign_Name (hs := hs) (step (h A s ok G) fun v a ρ1 H1 s1 i G1 x1 ⟨e1, q⟩ => by
    subst e1
    refine wpAny_mono (leaf x1 (name_sound (Q := fun _ ρ' H' => ρ' = (x, a) :: ρ1 ∧ H' = H1) G1 i ⟨rfl, rfl⟩ hl hk)) (fun _ s2 pq0 => ?_) fun _ _ e => e
    obtain ⟨_, ρ2, H2, _, g, y, e1, e2⟩ := pq0
    subst e1 e2
    exact ⟨.next, _, _, .next, g, y, q⟩)
/-- an assignment to one target -/
theorem ex_assign {t e : Expr} {pos : Pos} {Q : AF → List (Str × AV) → HM → Prop} (h : EV X (n + 1) nm sc L fa cd ρ H e fun a H' => TG X n nm sc L fa cd ρ H' t a fun ρ' H'' => Q .next ρ' H'')
    (hs : swapsWithSole [t] e pos.line (envOf nm sc L fa cd) = pure false := by rfl) (hw : swappedStores [t] e (envOf nm sc L fa cd) = pure none := by rfl)
    (ha : (assignEach [t] (envOf nm sc L fa cd)).map (·.2) = [assign t (envOf nm sc L fa cd)] := by rfl) : EX X n nm sc L fa cd ρ H (.Assign [t] e pos) Q := fun A s ok G =>
  wpAny_Assign_stores (hs := hs) (hw := hw) (step (h A s ok G) fun v a ρ1 H1 s1 i G1 x1 ⟨e1, q⟩ => by
    subst e1
    rw [ha]
    refine step (q A s1 v ok G1 i) fun _ _ ρ2 H2 s2 _ G2 x2 q => ?_
    exact leafP (x1.trans x2) (here' G2 .next q))
theorem ex_expr {e : Expr} {pos : Pos} {Q : AF → List (Str × AV) → HM → Prop} (h : EV X (n + 1) nm sc L fa cd ρ H e fun _ H' => Q .next ρ H') (hi : interactive (envOf nm sc L fa cd) = false := by rfl)
    (hs : swapsWith e none pos.line (envOf nm sc L fa cd) = pure false := by rfl) : EX X n nm sc L fa cd ρ H (.Expr e pos) Q := fun A s ok G =>
  wpAny_Expr_any (step (h A s ok G) fun v a ρ1 H1 s1 i G1 x1 ⟨e1, q⟩ => by
    subst e1
    exact leafP x1 (here' G1 .next q)) hi hs
theorem ex_return {e : Expr} {pos : Pos} {Q : AF → List (Str × AV) → HM → Prop} (h : EV X (n + 1) nm sc L fa cd ρ H e fun a H' => Q (.ret a) ρ H') : EX X n nm sc L fa cd ρ H (.Return (some e) pos) Q := fun A s ok G =>
  wpAny_Return_some (step (h A s ok G) fun v a ρ1 H1 s1 i G1 x1 ⟨e1, q⟩ => by
    subst e1
    exact leafP x1 (here' G1 (.ret i) q))
theorem ex_if {t : Expr} {b o : List Stmt} {pos : Pos} {Q : AF → List (Str × AV) → HM → Prop} (h : TV X (n + 1) nm sc L fa cd ρ H t fun c H' => (c = true → EXS X n nm sc L fa cd ρ H' b Q) ∧ (c = false → EXS X n nm sc L fa cd ρ H' o Q)) :
    EX X n nm sc L fa cd ρ H (.If t b o pos) Q := fun A s ok G =>
  wpAny_If (step (h A s ok G) fun v c ρ1 H1 s1 i G1 x1 ⟨e1, q⟩ => by
    subst e1 i
    cases v with
    | true => exact leaf x1 (q.1 rfl A s1 ok G1)
    | false => exact leaf x1 (q.2 rfl A s1 ok G1))
theorem ex_ifp {t : Expr} {b o : List Stmt} {pos : Pos} {c : Bool} {Q : AF → List (Str × AV) → HM → Prop} (h : PT X (n + 1) nm sc L fa cd ρ H t c) (hb : c = true → EXS X n nm sc L fa cd ρ H b Q) (ho : c = false → EXS X n nm sc L fa cd ρ H o Q) :
    EX X n nm sc L fa cd ρ H (.If t b o pos) Q := ex_if (h.mono fun _ _ ⟨e1, e2⟩ => by subst e1 e2; exact ⟨hb, ho⟩)
end

-- TDef
section
variable {prog : Program} {w : World} {X : Cx prog w}
variable {nm : Str} {sc : Scope} {L fa : Addr} {cd : Value} {n : Nat} {ρ : List (Str × AV)} {H : HM}

theorem look_append {α : Type} [BEq α] {β : Type} (k : α) : ∀ (a b : List (α × β)), (a ++ b).lookup k = (a.lookup k).or (b.lookup k)
  | [], b => by simp
  | (x, v) :: a, b => by
    rw [List.cons_append, List.lookup_cons, List.lookup_cons]
    cases k == x with
    | true => rfl
    | false => exact look_append k a b
theorem mapis_zip {h : Heap} : ∀ {vs : List Value} {as : List AV} (_ : IsL h vs as) (names : List Str), MapIs h (fun x => (names.zip vs).reverse.lookup x) (names.zip as).reverse
  | _, _, _, [] => fun k => by simp
  | _, _, .nil, _ :: _ => fun k => by simp
  | _, _, .cons (v := v) (x := a) (vs := vs) (xs := as) i l, m :: names => fun k => by
    have ih := mapis_zip l names k
    simp only [List.zip_cons_cons, List.reverse_cons, look_append] at ih ⊢
    cases q : (names.zip as).reverse.lookup k with
    | some x =>
      rw [q] at ih
      obtain ⟨u, e, i'⟩ := ih
      exact ⟨u, by rw [e]; rfl, i'⟩
    | none =>
      rw [q] at ih
      have ih' : (names.zip vs).reverse.lookup k = none := ih
      rw [ih']
      by_cases e : k = m
      · subst e; simpa using i
      · have : (k == m) = false := by simp [e]
        simp [List.lookup_cons, this]

/-- a def's call, arguments by place -/
theorem cl_def {f : Addr} {name qual : Str} {params : Arguments} {body : List Stmt} {scope : Scope} {dV kV doc pm cdv ct : Value} {an : Option Addr} {names : List Str} {as : List AV} {Q : AV → HM → Prop}
    (F : FnAt X f (fnOf name qual params body scope dV kV doc pm an cdv ct)) (hbind : ∀ vs : List Value, vs.length = as.length → bindArgs (fnOf name qual params body scope dV kV doc pm an cdv ct) ⟨vs, []⟩ = pure (names.zip vs))
    (hloc : ∀ y ∈ names, scope.names.lookup y = some .local) (hcell : ∀ x ∈ scope.names, x.2 ≠ .cell)
    (h : ∀ L, EXS X n qual scope L f cdv (names.zip as).reverse H body fun fl _ H' => match fl with | .ret a => Q a H' | _ => Q .none H')
    (hco : scope.isCoroutine = false := by rfl) (hgen : scope.isGenerator = false := by rfl) (hk : scope.kind = .function := by rfl) : CL X (n + 2) (.ref f) as H Q := fun A s vs ok G il => by
  obtain ⟨o, ho, hd⟩ := F.ob
  refine wpAny_call (codeAny_call_def (fd := fnOf name qual params body scope dV kV doc pm an cdv ct) (body := body) (binds := names.zip vs) (by show A.depth < recursionLimit; have := ok.dp; show A.depth < 1000; omega)
    (G.keep _ _ ho) hd (X.nolim.keeps G.keep) (F.code.keeps G.keep) rfl (.of_eq (hbind vs il.length)) hcell (fun y hy => hloc y.1 (List.of_mem_zip hy).1) (fun h₁ hns hk₁ => ?_) hco hgen hk)
  have fresh : s.heap.get? s.heap.objs.size = none := by
    cases q : s.heap.get? s.heap.objs.size with
    | none => rfl
    | some o => exact absurd (Heap.lt_size q) (Nat.lt_irrefl _)
  have tk : TupKept s.heap h₁ := fun b o e _ => hk₁ b o e
  obtain ⟨g, x⟩ := G.add (s' := { s with heap := h₁, toks := s.toks + (names.zip vs).length }) (a := s.heap.objs.size) (ao := .ns (names.zip as).reverse) hk₁ fresh ⟨_, hns, mapis_zip (il.mono tk) names⟩ rfl rfl
  have off : H s.heap.objs.size = none := by
    cases q : H s.heap.objs.size with
    | none => rfl
    | some ao => obtain ⟨o, e, _⟩ := (G.ob _ _ q).1.there; rw [fresh] at e; cases e
  refine wpAny_mono (h s.heap.objs.size (A.deeper _) _ (AOk.deeper ok _) ⟨off, g⟩) (fun fl s' pq0 => ?_) fun _ _ e => e.elim
  obtain ⟨af, ρ', H', i, g', x', q⟩ := pq0
  have gg := g'.glob
  have xx : Ext H s H' s' := by
    have y := x.trans x'
    refine ⟨y.kept, y.tup, fun a na nb => ?_, y.os, y.there⟩
    by_cases ne : a = s.heap.objs.size
    · subst ne; exact fresh
    · exact y.dom a (by rw [HM.put_ne _ _ ne]; exact na) nb
  cases i with
  | next => exact ⟨_, _, .none, gg, xx, q⟩
  | brk => exact ⟨_, _, .none, gg, xx, q⟩
  | cont => exact ⟨_, _, .none, gg, xx, q⟩
  | ret i => exact ⟨_, _, i, gg, xx, q⟩

-- swapped stores: «a, b = x, y» with names of the frame's
theorem names_sound : ∀ {names : List Str} {vs : List Value} {as : List AV} {ρ : List (Str × AV)} {A : Around} {s : Shared}, IsL s.heap vs as → GL X L ρ H s → (∀ x ∈ names, (envOf nm sc L fa cd).kindOf x = some .local) → sc.kind = .function → names.length = vs.length →
    wpAny (model prog w) A (assignInOrder (names.map fun x => bindName (envOf nm sc L fa cd) x) vs) (PostL X L (fun _ _ (_ : Unit) => True) ρ H s fun _ ρ' H' => ρ' = (names.zip as).reverse ++ ρ ∧ H' = H) NoE s
  | [], _, _, ρ, A, s, .nil, G, _, _, _ => wpAny_pure (here' (R := fun _ _ (_ : Unit) => True) (b := ()) G trivial ⟨rfl, rfl⟩)
  | x :: names, _, _, ρ, A, s, .cons (v := v) (vs := vs) (x := a) (xs := as) i l, G, hl, hk, hn => by
    show wpAny _ _ (do holding vs (bindName _ x v); assignInOrder _ _) _ _ _
    refine wpAny_bind (wpAny_holding (wpAny_bindName (step (name_sound (Q := fun _ ρ' H' => ρ' = (x, a) :: ρ ∧ H' = H) G i ⟨rfl, rfl⟩ (hl x (.head _)) hk) fun _ _ ρ1 H1 s1 _ G1 x1 ⟨e1, e2⟩ => ?_)))
    replace e2 := e2.symm
    subst e1 e2
    refine leaf x1 (wpAny_mono (names_sound (l.mono x1.tup) G1 (fun y hy => hl y (.tail _ hy)) hk (by simpa using hn)) (fun _ _ p => p.mono fun _ _ _ ⟨e1, e2⟩ => ⟨by rw [e1]; simp, e2⟩) fun _ _ e => e)
theorem IsL.reverse {h : Heap} : ∀ {vs : List Value} {xs : List AV}, IsL h vs xs → IsL h vs.reverse xs.reverse
  | _, _, .nil => .nil
  | _, _, .cons a b => by simpa using (IsL.reverse b).append (.cons a .nil)
end

-- TSub
section
variable {prog : Program} {w : World} {X : Cx prog w}
variable {nm : Str} {sc : Scope} {L fa : Addr} {cd : Value} {n : Nat} {ρ : List (Str × AV)} {H : HM}

inductive ASub (X : Cx prog w) (H : HM) : AV → AV → AV → Prop
  | tup {xs : List AV} {i : Int} {r : AV} (h0 : 0 ≤ i) (h1 : i < 2 ^ 63) (h : xs[i.toNat]? = some r) : ASub X H (.tup xs) (.int i) r
  | lst {d : Addr} {xs : List AV} {i : Int} {r : AV} (ha : At X H d (.lst xs)) (h0 : 0 ≤ i) (h1 : i < 2 ^ 63) (h : xs[i.toNat]? = some r) : ASub X H (.ref d) (.int i) r
  | arr {d : Addr} {xs : List AV} {i : Int} {r : AV} (ha : At X H d (.arr xs)) (h0 : 0 ≤ i) (h1 : i < 2 ^ 63) (h : xs[i.toNat]? = some r) : ASub X H (.ref d) (.int i) r
  | sd {d : Addr} {m : List (Str × AV)} {k : Str} {r : AV} (ha : At X H d (.sd m)) (h : lookA m k = some r) : ASub X H (.ref d) (.str k) r
  | td {d : Addr} {m : List (List Int × AV)} {k : List Int} {r : AV} (ha : At X H d (.td m)) (h : lookA m k = some r) : ASub X H (.ref d) (.tup (k.map .int)) r

theorem arr_get {h : Heap} {items : Array Value} {xs : List AV} (l : IsL h items.toList xs) {i : Nat} {r : AV} (e : xs[i]? = some r) : ∃ v, items[i]? = some v ∧ Is h v r := by
  obtain ⟨v, e', i'⟩ := l.get e
  exact ⟨v, by rw [← Array.getElem?_toList]; exact e', i'⟩

theorem sub_sound {ov iv r : AV} (h : ASub X H ov iv r) {A : Around} {s : Shared} {vo vi : Value} {value slice : Expr} (ok : AOk (n + 1) A) (G : GL X L ρ H s) (io : Is s.heap vo ov) (ii : Is s.heap vi iv)
    (hs : ∀ o i, subscripted slice false o i = operate [o, i] (getItem o i)) :
    wpAny (model prog w) A (subscriptTail value slice vo vi) (PostL X L Is ρ H s fun b ρ' H' => ρ' = ρ ∧ b = r ∧ H' = H) NoE s := by
  cases h with
  | @tup xs i r h0 h1 h =>
    cases ii
    cases io with
    | @tup _ _ items _ _ e c d l =>
      obtain ⟨v, e', i'⟩ := arr_get l h
      have hlt : i.toNat < items.size := (Array.getElem?_eq_some_iff.mp e').1
      have hj : seqIndex? i items.size = some i.toNat := by
        have hn : ¬ i < 0 := by omega
        have hq : i < items.size := by omega
        simp [seqIndex?, hn, h0, hq]
      have ht : IsTup s.heap _ items := ⟨_, e, c, _, d⟩
      exact tail_any ht.typeIs slot_tuple_getitem.lookup (PyProof.Rows.getItem_tuple ht  (by omega) h1 hj e' (here' G i' ⟨rfl, rfl, rfl⟩)) (hs _ _)
  | lst ha h0 h1 h =>
    apply ii.int_elim; intro _; apply io.ref_elim
    obtain ⟨items, k, hl, l⟩ := G.at ha
    obtain ⟨v, e', i'⟩ := arr_get l h
    have hl' : s.heap.IsList _ items := ⟨_, hl, rfl, _, rfl⟩
    exact tail_any hl'.typeIs slot_list_getitem.lookup (wpAny_getItem_list hl' h0 h1 e' (here' G i' ⟨rfl, rfl, rfl⟩)) (hs _ _)
  | arr ha h0 h1 h =>
    apply ii.int_elim; intro _; apply io.ref_elim
    obtain ⟨items, hl', l⟩ := G.at ha
    obtain ⟨v, e', i'⟩ := arr_get l h
    exact tail_any hl'.typeIs slot_list_getitem.lookup (wpAny_getItem_list hl' h0 h1 e' (here' G i' ⟨rfl, rfl, rfl⟩)) (hs _ _)
  | sd ha h =>
    apply ii.str_elim; intro _; apply io.ref_elim
    obtain ⟨kvs, hd, hm⟩ := G.at ha
    obtain ⟨v, e', i'⟩ := hm.look h
    exact tail_any hd.typeIs slot_dict_getitem.lookup (wpAny_getItem_of (strKind_is prog w _ _) hd.mapOf e' (here G i' ⟨rfl, rfl, rfl⟩)) (hs _ _)
  | td ha h =>
    apply io.ref_elim
    obtain ⟨ka, rfl, hk⟩ := key_of (prog := prog) (w := w) ii
    obtain ⟨xs, hd, hm⟩ := G.at ha
    obtain ⟨v, e', i'⟩ := hm.look h
    exact tail_any hd.typeIs slot_dict_getitem.lookup (wpAny_getItem_heap (knd := tkind prog w) (by show A.units + 1 < cLine; rw [cLine_is]; have := ok.un; omega) hk hd e' (here G i' ⟨rfl, rfl, rfl⟩)) (hs _ _)
theorem pe_sub {value slice : Expr} {pos : Pos} {ov iv r : AV} (hv : PE X (n + 1) nm sc L fa cd ρ H value ov) (hi : PE X (n + 1) nm sc L fa cd ρ H slice iv) (h : ASub X H ov iv r)
    (hs : ∀ o i, subscripted slice false o i = operate [o, i] (getItem o i) := by intros; rfl) : PE X (n + 1) nm sc L fa cd ρ H (.Subscript value slice pos) r := fun A s ok G =>
  Subscript_ (stepP (hv A s ok G) fun v s1 i1 G1 x1 => by
    refine stepP (hi A s1 ok G1) fun u s2 i2 G2 x2 => ?_
    exact leaf (x1.trans x2) (sub_sound h ok G2 (i1.mono x2.tup) i2 hs))
end

-- TLoop
section
variable {prog : Program} {w : World} {X : Cx prog w}
variable {nm : Str} {sc : Scope} {L fa : Addr} {cd : Value} {n : Nat} {ρ : List (Str × AV)} {H : HM}

/-- a loop over what is left -/
noncomputable def Lp (X : Cx prog w) (n : Nat) (nm : Str) (sc : Scope) (L fa : Addr) (cd : Value) (t : Expr) (body : List Stmt) : List AV → List (Str × AV) → HM → (AF → List (Str × AV) → HM → Prop) → Prop
  | [], ρ, H, Q => Q .next ρ H
  | x :: xs, ρ, H, Q => TG X n nm sc L fa cd ρ H t x fun ρ1 H1 => EXS X n nm sc L fa cd ρ1 H1 body fun f ρ2 H2 => match f with
    | .next => Lp X n nm sc L fa cd t body xs ρ2 H2 Q
    | .cont => Lp X n nm sc L fa cd t body xs ρ2 H2 Q
    | .brk => Q .next ρ2 H2
    | .ret a => Q (.ret a) ρ2 H2

/-- the heap turns at some places that nothing names -/
theorem GL.aside {s s' : Shared} {wr : List Addr} (G : GL X L ρ H s) (hk : ∀ b o, b ∉ wr → s.heap.get? b = some o → s'.heap.get? b = some o) (hw : ∀ b ∈ wr, X.h₀.get? b = none ∧ X.S b = none ∧ H b = none ∧ b ≠ L)
    (hn : ∀ b ∈ wr, ∃ o, s.heap.get? b = some o ∧ ¬ IsTupO o) (hg : s'.gens = s.gens) : GL X L ρ H s' ∧ TupKept s.heap s'.heap := by
  have tk : TupKept s.heap s'.heap := fun b o e t => by
    by_cases q : b ∈ wr
    · obtain ⟨o', e', n'⟩ := hn b q; rw [e'] at e; cases e; exact absurd t n'
    · exact hk b o q e
  refine ⟨⟨G.off, fun b o e => ?_, fun a ao e => ?_, fun a ao e => ?_, hg.trans G.good.gens⟩, tk⟩
  · by_cases q : b ∈ wr
    · rw [(hw b q).1] at e; cases e
    · exact hk b o q (G.keep b o e)
  · have z := G.good.st a ao e
    have q : a ∉ wr := fun q => by rw [(hw a q).2.1] at e; cases e
    exact ⟨z.1.move tk fun o e => hk a o q e, z.2⟩
  · have z := G.good.ob a ao e
    have q : a ∉ wr := fun q => by
      by_cases ne : a = L
      · exact (hw a q).2.2.2 ne
      · rw [HM.put_ne _ _ ne, (hw a q).2.2.1] at e; cases e
    exact ⟨z.1.move tk fun o e => hk a o q e, z.2⟩
theorem Ext.aside {H₀ H₁ : HM} {s₀ s s' : Shared} {wr : List Addr} (x : Ext H₀ s₀ H₁ s) (hk : ∀ b o, b ∉ wr → s.heap.get? b = some o → s'.heap.get? b = some o) (hw : ∀ b ∈ wr, s₀.heap.get? b = none) (ho : s'.os = s.os) : Ext H₀ s₀ H₁ s' where
  kept := fun b o e n => hk b o (fun q => by rw [hw b q] at e; cases e) (x.kept b o e n)
  tup := fun b o e t => hk b o (fun q => by rw [hw b q] at e; cases e) (x.tup b o e t)
  dom := x.dom
  os := ho.trans x.os
  there := fun b o e => let ⟨o', e'⟩ := x.there b o e; ⟨o', hk b o' (fun q => by rw [hw b q] at e; cases e) e'⟩
theorem Ext.none {H₀ H₁ : HM} {s₀ s : Shared} (x : Ext H₀ s₀ H₁ s) {b : Addr} (h : s.heap.get? b = none) : s₀.heap.get? b = none := by
  cases q : s₀.heap.get? b with
  | none => rfl
  | some o => obtain ⟨o', e⟩ := x.there b o q; rw [h] at e; cases e

theorem loop_sound {A : Around} {t : Expr} {body : List Stmt} {I : Addr} {fp wr : List Addr} {P Md : Nat → Value → Heap → Prop} {St : Nat → Heap → Prop} {xs : List AV} {Q : AF → List (Str × AV) → HM → Prop} {ρ₀ : List (Str × AV)} {H₀ : HM} {s₀ s : Shared}
    (W : KTurns prog w A t I fp wr xs.length P Md St) (ok : AOk (n + 1) A) (hP : ∀ i v h, P i v h → TupKept s.heap h → ∃ x, xs[i]? = some x ∧ Is h v x)
    (hnt : ∀ i h, St i h → ∀ b ∈ wr, ∃ o, h.get? b = some o ∧ ¬ IsTupO o) (hmd : ∀ i v h, Md i v h → ∀ b ∈ wr, ∃ o, h.get? b = some o ∧ ¬ IsTupO o)
    (hwr : ∀ b ∈ wr, s₀.heap.get? b = none ∧ X.h₀.get? b = none ∧ X.S b = none) (hfp : ∀ b ∈ fp, (∃ o, s.heap.get? b = some o) ∧ H b = none ∧ b ≠ L)
    (st : St 0 s.heap) (G : GL X L ρ H s) (x : Ext (H₀.put L (.ns ρ₀)) s₀ (H.put L (.ns ρ)) s) (hl : Lp X n nm sc L fa cd t body xs ρ H Q) :
    codeAny (model prog w) A (.forLoop t (.ref I) body [] (envOf nm sc L fa cd)) (fun r s' => match r with | .ok f => PostL X L FIs ρ₀ H₀ s₀ Q f s' | .error e => cameBackBy (model prog w) A (envOf nm sc L fa cd) NoE e s') s := by
  refine codeAny_forLoop_any
    (fun k s' => ∃ i ρ1 H1, k = xs.length + 1 - i ∧ i ≤ xs.length ∧ St i s'.heap ∧ GL X L ρ1 H1 s' ∧ Ext (H₀.put L (.ns ρ₀)) s₀ (H1.put L (.ns ρ1)) s' ∧ TupKept s.heap s'.heap ∧ (∀ b ∈ fp, (∃ o, s'.heap.get? b = some o) ∧ H1 b = none ∧ b ≠ L) ∧ Lp X n nm sc L fa cd t body (xs.drop i) ρ1 H1 Q)
    ?_ (xs.length + 1) ⟨0, ρ, H, rfl, Nat.zero_le _, st, G, x, .refl _, hfp, hl⟩
  rintro k s1 ⟨i, ρ1, H1, rfl, hi, st1, G1, x1, tk1, hfp1, hl1⟩
  have hw1 : ∀ b ∈ wr, X.h₀.get? b = none ∧ X.S b = none ∧ H1 b = none ∧ b ≠ L := fun b hb => ⟨(hwr b hb).2.1, (hwr b hb).2.2, (hfp1 b (W.sub b hb)).2.1, (hfp1 b (W.sub b hb)).2.2⟩
  by_cases hlt : i < xs.length
  · refine W.item i _ _ _ hlt st1 fun v h2 tk2 hMd hk2 => ?_
    obtain ⟨G2, t2⟩ := G1.aside (s' := { s1 with heap := h2, toks := tk2 }) hk2 hw1 (hnt _ _ st1) rfl
    have x2 := x1.aside (s' := { s1 with heap := h2, toks := tk2 }) hk2 (fun b hb => (hwr b hb).1) rfl
    refine W.go i v _ _ _ hMd fun h3 hP3 st3 hk3 => ?_
    obtain ⟨G3, t3⟩ := G2.aside (s' := { s1 with heap := h3, toks := tk2 }) hk3 hw1 (hmd _ _ _ hMd) rfl
    have x3 := x2.aside (s' := { s1 with heap := h3, toks := tk2 }) hk3 (fun b hb => (hwr b hb).1) rfl
    have tk3 := (tk1.trans t2).trans t3
    obtain ⟨y, hy, iy⟩ := hP i v h3 hP3 tk3
    have hd : xs.drop i = y :: xs.drop (i + 1) := by
      obtain ⟨h, e⟩ := List.getElem?_eq_some_iff.mp hy
      rw [← e]; exact List.drop_eq_getElem_cons h
    rw [hd] at hl1
    have hfp3 : ∀ b ∈ fp, (∃ o, h3.get? b = some o) ∧ H1 b = none ∧ b ≠ L := fun b hb => by
      refine ⟨?_, (hfp1 b hb).2⟩
      by_cases q : b ∈ wr
      · obtain ⟨o, e, _⟩ := hnt _ _ st3 b q; exact ⟨o, e⟩
      · obtain ⟨o, e⟩ := (hfp1 b hb).1
        exact ⟨o, hk3 b o q (hk2 b o q e)⟩
    refine wpAny_mono (hl1 A _ v ok G3 iy) (fun _ s4 pq0 => ?_) fun _ _ e => e.elim
    obtain ⟨_, ρ4, H4, _, G4, x4, q4⟩ := pq0
    refine wpAny_mono (q4 A s4 ok G4) (fun f s5 pq0 => ?_) fun _ _ e => e.elim
    obtain ⟨af, ρ5, H5, i5, G5, x5, q5⟩ := pq0
    have x45 := x4.trans x5
    have hfp5 : ∀ b ∈ fp, (∃ o, s5.heap.get? b = some o) ∧ H5 b = none ∧ b ≠ L := fun b hb => by
      obtain ⟨⟨o, e⟩, hn, hL⟩ := hfp3 b hb
      have hn' : (H1.put L (.ns ρ1)) b = none := by rw [HM.put_ne _ _ hL]; exact hn
      refine ⟨⟨o, x45.kept b o e hn'⟩, ?_, hL⟩
      cases q : H5 b with
      | none => rfl
      | some z =>
        have := x45.dom b (by rw [HM.put_ne _ _ hL, q]; exact fun e => nomatch e) hn'
        rw [e] at this; cases this
    have again : Lp X n nm sc L fa cd t body (xs.drop (i + 1)) ρ5 H5 Q → ∃ m, m < xs.length + 1 - i ∧ ∃ i ρ1 H1, m = xs.length + 1 - i ∧ i ≤ xs.length ∧ St i s5.heap ∧ GL X L ρ1 H1 s5 ∧ Ext (H₀.put L (.ns ρ₀)) s₀ (H1.put L (.ns ρ1)) s5 ∧ TupKept s.heap s5.heap ∧ (∀ b ∈ fp, (∃ o, s5.heap.get? b = some o) ∧ H1 b = none ∧ b ≠ L) ∧ Lp X n nm sc L fa cd t body (xs.drop i) ρ1 H1 Q := fun q =>
      ⟨xs.length + 1 - (i + 1), by omega, i + 1, ρ5, H5, rfl, hlt, W.frame _ _ _ st3 fun b hb o e => x45.kept b o e (by rw [HM.put_ne _ _ (hfp3 b hb).2.2]; exact (hfp3 b hb).2.1), G5, x3.trans x45, tk3.trans x45.tup, hfp5, q⟩
    cases i5 with
    | next => exact again q5
    | cont => exact again q5
    | brk => exact ⟨.next, ρ5, H5, .next, G5, x3.trans x45, q5⟩
    | ret i => exact ⟨.ret _, ρ5, H5, .ret i, G5, x3.trans x45, q5⟩
  · have hin : i = xs.length := by omega
    subst hin
    refine W.done _ _ _ st1 fun h2 tk2 hk2 => wpAny_execs_nil ?_
    obtain ⟨G2, t2⟩ := G1.aside (s' := { s1 with heap := h2, toks := tk2 }) hk2 hw1 (hnt _ _ st1) rfl
    have x2 := x1.aside (s' := { s1 with heap := h2, toks := tk2 }) hk2 (fun b hb => (hwr b hb).1) rfl
    rw [List.drop_length] at hl1
    exact ⟨.next, ρ1, H1, .next, G2, x2, hl1⟩

theorem fresh_size (h : Heap) : h.get? h.objs.size = none := by
  cases q : h.get? h.objs.size with
  | none => rfl
  | some o => exact absurd (Heap.lt_size q) (Nat.lt_irrefl _)
/-- a place that is new is in no map -/
theorem GL.new {s : Shared} {b : Addr} (G : GL X L ρ H s) (hb : s.heap.get? b = none) : X.h₀.get? b = none ∧ X.S b = none ∧ H b = none ∧ b ≠ L := by
  refine ⟨?_, ?_, ?_, ?_⟩
  · cases q : X.h₀.get? b with
    | none => rfl
    | some o => have := G.keep b o q; rw [hb] at this; cases this
  · cases q : X.S b with
    | none => rfl
    | some ao => obtain ⟨o, e, _⟩ := (G.sobj q).there; rw [hb] at e; cases e
  · cases q : H b with
    | none => rfl
    | some ao => obtain ⟨o, e, _⟩ := (G.obj q).there; rw [hb] at e; cases e
  · intro q; subst q
    obtain ⟨o, e, _⟩ := (G.good.ob b (.ns ρ) (HM.put_self ..)).1.there
    rw [hb] at e; cases e
/-- the iterator over a list object that nothing names as turning -/
theorem list_loop {A : Around} {t : Expr} {body : List Stmt} {ax : Addr} {items : Array Value} {xs : List AV} {Q : AF → List (Str × AV) → HM → Prop} {ρ₀ : List (Str × AV)} {H₀ : HM} {s₀ s : Shared} (ok : AOk (n + 1) A)
    (hl : s.heap.IsList ax items) (il : IsL s.heap items.toList xs) (hH : H ax = none) (hL : ax ≠ L) (hgo : ∀ I v (s : Shared) (Q : Unit → Shared → Prop) (E : Value → Shared → Prop), (∃ i, s.heap.IsListIter I ax i) → Q () s → wpAny (model prog w) A (letOwnedTupleGo t (.ref I) v) Q E s)
    (G : GL X L ρ H s) (x : Ext (H₀.put L (.ns ρ₀)) s₀ (H.put L (.ns ρ)) s) (l : Lp X n nm sc L fa cd t body xs ρ H Q) :
    wpAny (model prog w) A (pyIter (.ref ax)) (fun it s2 => codeAny (model prog w) A (.forLoop t it body [] (envOf nm sc L fa cd)) (fun r s' => match r with | .ok f => PostL X L FIs ρ₀ H₀ s₀ Q f s' | .error e => cameBackBy (model prog w) A (envOf nm sc L fa cd) NoE e s') s2) NoE s := by
  refine wpAny_pyIter_list hl ?_
  have fr := G.new (fresh_size s.heap)
  obtain ⟨G', x'⟩ := G.grow (s' := { s with heap := s.heap.push { cls := .type "list_iterator", data := .fields #[.ref ax, .int 0 0] } }) (fun b o e => Heap.get?_push_of_some _ e) rfl rfl
  have hne : ax ≠ s.heap.objs.size := by obtain ⟨o, e, _⟩ := hl; exact Nat.ne_of_lt (Heap.lt_size e)
  have hsz : items.size = xs.length := by rw [← il.length, Array.length_toList]
  have W := KTurns.ofWalks (target := t) (Walks.list ok.hd s.heap.objs.size ax hne items) fun i v s Q E st q => hgo _ v s Q E ⟨_, st.1⟩ q
  rw [hsz] at W
  refine loop_sound W ok (fun i v h p tk => ?_) (fun i h st b hb => ?_) (fun i v h st b hb => ?_) (fun b hb => ?_) (fun b hb => ?_) ⟨⟨_, Heap.get?_push_size _ rfl, rfl, rfl⟩, hl.at fun o e => Heap.get?_push_of_some _ e⟩ G' (x.trans x') l
  · have ii := il.mono (x'.tup.trans tk)
    have p' : items.toList[i]? = some v := by rw [Array.getElem?_toList]; exact p
    have hlt : i < xs.length := by rw [← il.length]; exact (List.getElem?_eq_some_iff.mp p').1
    obtain ⟨u, e, iu⟩ := ii.get (List.getElem?_eq_getElem hlt)
    rw [p'] at e; cases e
    exact ⟨_, List.getElem?_eq_getElem hlt, iu⟩
  · rw [List.mem_singleton.mp hb]
    obtain ⟨o, e, c, d⟩ := st.1
    exact ⟨o, e, fun ⟨_, _, _, q⟩ => by rw [d] at q; cases q⟩
  · rw [List.mem_singleton.mp hb]
    obtain ⟨o, e, c, d⟩ := st.2.1
    exact ⟨o, e, fun ⟨_, _, _, q⟩ => by rw [d] at q; cases q⟩
  · rw [List.mem_singleton.mp hb]; exact ⟨x.none (fresh_size _), fr.1, fr.2.1⟩
  · have hb' : b = s.heap.objs.size ∨ b = ax := by simpa using hb
    rcases hb' with rfl | rfl
    · exact ⟨⟨_, Heap.get?_push_size _ rfl⟩, fr.2.2.1, fr.2.2.2⟩
    · obtain ⟨o, e, _⟩ := hl; exact ⟨⟨o, Heap.get?_push_of_some _ e⟩, hH, hL⟩
theorem go_name {A : Around} {x : Str} {p : Pos} {it v : Value} {s : Shared} {Q : Unit → Shared → Prop} {E : Value → Shared → Prop} (q : Q () s) : wpAny (model prog w) A (letOwnedTupleGo (.Name x p) it v) Q E s := wpAny_pure q

/-- for x in a list that stands -/
theorem ex_for_lst {x : Str} {p : Pos} {iter : Expr} {body : List Stmt} {pos : Pos} {a : Addr} {xs : List AV} {Q : AF → List (Str × AV) → HM → Prop} (hi : PE X (n + 1) nm sc L fa cd ρ H iter (.ref a)) (ha : X.S a = some (.lst xs))
    (l : Lp X n nm sc L fa cd (.Name x p) body xs ρ H Q) (hs : ∀ x, foldedSetIterable iter (envOf nm sc L fa cd) x = pure x := by intro _; rfl) : EX X n nm sc L fa cd ρ H (.For (.Name x p) iter body [] pos) Q := fun A s ok G =>
  wpAny_For (hs := hs) (stepP (hi A s ok G) fun v s1 i1 G1 x1 => by
    first | apply i1.ref_elim | apply i1.bool_elim | apply i1.ty_elim | apply i1.bi_elim | cases i1
    obtain ⟨items, k, hl, il⟩ := G1.sobj ha
    have off := (G1.good.st a _ ha).2
    have hL : a ≠ L := fun q => by subst q; rw [HM.put_self] at off; cases off
    rw [HM.put_ne _ _ hL] at off
    refine list_loop ok ⟨_, hl, rfl, _, rfl⟩ il off hL (fun I v s Q E _ q => go_name q) G1 x1 l)

/-- a list of H put aside while a loop goes over it -/
theorem GL.aside1 {s : Shared} {a : Addr} (G : GL X L ρ H s) : GL X L ρ (H.drop a) s := by
  refine ⟨?_, G.good.less fun b ao e => ?_⟩
  · by_cases q : L = a
    · subst q; exact HM.drop_self ..
    · rw [HM.drop_ne _ q]; exact G.off
  · by_cases q : b = L
    · subst q; rw [HM.put_self] at e ⊢; exact e
    · rw [HM.put_ne _ _ q] at e ⊢
      by_cases q2 : b = a
      · subst q2; rw [HM.drop_self] at e; cases e
      · rw [HM.drop_ne _ q2] at e; exact e
theorem PostL.back {L : Addr} {a : Addr} {ao : AO} {s s' : Shared} {f : Flow} {Q : AF → List (Str × AV) → HM → Prop} (G : GL X L ρ H s) (ha : H a = some ao)
    (p : PostL X L FIs ρ (H.drop a) s (fun f ρ' H' => H' a = none → Q f ρ' (H'.put a ao)) f s') : PostL X L FIs ρ H s Q f s' := by
  obtain ⟨b, ρ', H', i, g, x, fin⟩ := p
  have hL : a ≠ L := fun q => by subst q; rw [G.off] at ha; cases ha
  have z := G.good.ob a ao (by rw [HM.put_ne _ _ hL]; exact ha)
  have off : ((H.drop a).put L (.ns ρ)) a = none := by rw [HM.put_ne _ _ hL, HM.drop_self]
  obtain ⟨o, e, _⟩ := z.1.there
  have hn : H' a = none := by
    cases r : H' a with
    | none => rfl
    | some u => have := x.dom a (by rw [HM.put_ne _ _ hL, r]; exact fun e => nomatch e) off; rw [e] at this; cases this
  have hS : X.S a = none := by
    cases r : X.S a with
    | none => rfl
    | some u => have := (G.good.st a u r).2; rw [HM.put_ne _ _ hL, ha] at this; cases this
  refine ⟨b, ρ', H'.put a ao, i, ⟨by rw [HM.put_ne _ _ (Ne.symm hL)]; exact g.off, g.good.keep, fun c co ec => ?_, fun c co ec => ?_, g.good.gens⟩, ⟨fun c o ec nc => ?_, x.tup, fun c nc nc' => ?_, x.os, x.there⟩, fin hn⟩
  · have y := g.good.st c co ec
    refine ⟨y.1, ?_⟩
    have ne : c ≠ a := fun q => by subst q; rw [hS] at ec; cases ec
    by_cases q : c = L
    · subst q; rw [HM.put_self] at y; cases y.2
    · rw [HM.put_ne _ _ q] at y ⊢
      rw [HM.put_ne _ _ ne]; exact y.2
  · by_cases q : c = L
    · subst q; rw [HM.put_self] at ec; exact g.good.ob c co (by rw [HM.put_self]; exact ec)
    · rw [HM.put_ne _ _ q] at ec
      by_cases q2 : c = a
      · subst q2
        rw [HM.put_self] at ec; cases ec
        exact ⟨z.1.move x.tup fun o e => x.kept _ o e off, z.2⟩
      · rw [HM.put_ne _ _ q2] at ec
        exact g.good.ob c co (by rw [HM.put_ne _ _ q]; exact ec)
  · refine x.kept c o ec ?_
    by_cases q : c = L
    · subst q; rw [HM.put_self] at nc; cases nc
    · rw [HM.put_ne _ _ q] at nc ⊢
      by_cases q2 : c = a
      · subst q2; exact HM.drop_self ..
      · rw [HM.drop_ne _ q2]; exact nc
  · by_cases q : c = L
    · subst q; rw [HM.put_self] at nc'; cases nc'
    · by_cases q2 : c = a
      · subst q2; rw [HM.put_ne _ _ q, ha] at nc'; cases nc'
      · rw [HM.put_ne _ _ q, HM.put_ne _ _ q2] at nc
        rw [HM.put_ne _ _ q] at nc'
        exact x.dom c (by rw [HM.put_ne _ _ q]; exact nc) (by rw [HM.put_ne _ _ q, HM.drop_ne _ q2]; exact nc')
/-- for x in a list of H that the loop does not turn -/
theorem ex_for_hlst {x : Str} {p : Pos} {iter : Expr} {body : List Stmt} {pos : Pos} {a : Addr} {xs : List AV} {Q : AF → List (Str × AV) → HM → Prop} (hi : PE X (n + 1) nm sc L fa cd ρ H iter (.ref a)) (ha : H a = some (.lst xs))
    (l : Lp X n nm sc L fa cd (.Name x p) body xs ρ (H.drop a) fun f ρ' H' => H' a = none → Q f ρ' (H'.put a (.lst xs))) (hs : ∀ x, foldedSetIterable iter (envOf nm sc L fa cd) x = pure x := by intro _; rfl) :
    EX X n nm sc L fa cd ρ H (.For (.Name x p) iter body [] pos) Q := fun A s ok G =>
  wpAny_For (hs := hs) (stepP (hi A s ok G) fun v s1 i1 G1 x1 => by
    first | apply i1.ref_elim | apply i1.bool_elim | apply i1.ty_elim | apply i1.bi_elim | cases i1
    obtain ⟨items, k, hl, il⟩ := G1.obj ha
    have hL : a ≠ L := fun q => by subst q; rw [G1.off] at ha; cases ha
    refine wpAny_mono (list_loop (Q := fun f ρ' H' => H' a = none → Q f ρ' (H'.put a (.lst xs))) ok ⟨_, hl, rfl, _, rfl⟩ il (HM.drop_self ..) hL (fun I v s Q E _ q => go_name q) G1.aside1 (.refl _ _) l) (fun it s2 h2 => codeAny_mono h2 fun r s' h' => ?_) fun _ _ e => e
    cases r with
    | ok f => exact leafP x1 (PostL.back G1 ha h')
    | error e => exact h')
end

-- TEq
mutual
noncomputable def toD : AV → Option PyData
  | .none => some .none
  | .bool b => some (.bool b)
  | .int i => some (.int i)
  | .str s => some (.str s)
  | .tup xs => (toDs xs).map .tuple
  | .ref _ => none
  | .bi _ => none
  | .ty _ => none
noncomputable def toDs : List AV → Option (List PyData)
  | [] => some []
  | x :: xs => match toD x, toDs xs with
    | some a, some b => some (a :: b)
    | _, _ => none
end
mutual
theorem reads_of {h : Heap} : ∀ {v : Value} {x : AV} {d : PyData}, Is h v x → toD x = some d → Reads h v d []
  | _, _, _, .none, e => by cases e; exact .none
  | _, _, _, .bool b, e => by cases e; exact .bool b
  | _, _, _, .int i t, e => by cases e; exact .int i t
  | _, _, _, .str i t, e => by cases e; exact .str i t
  | _, _, _, .ref a, e => by cases e
  | _, _, _, .bi a, e => by cases e
  | _, _, _, .ty a, e => by cases e
  | _, _, d, .tup (xs := xs) g c dd l, e => by
    unfold toD at e
    obtain ⟨ds, e1, e2⟩ := Option.map_eq_some_iff.mp e
    subst e2
    exact .tuple g c dd (readsAll_of l e1)
theorem readsAll_of {h : Heap} : ∀ {vs : List Value} {xs : List AV} {ds : List PyData}, IsL h vs xs → toDs xs = some ds → ReadsAll h vs ds []
  | _, _, _, .nil, e => by cases e; exact .nil
  | _, _, ds, .cons (x := x) (xs := xs) a b, e => by
    unfold toDs at e
    split at e
    · rename_i d ds' e1 e2
      cases e
      exact ReadsAll.cons (as := []) (bs := []) (reads_of a e1) (readsAll_of b e2)
    · cases e
end

section
variable {prog : Program} {w : World} {X : Cx prog w}
variable {nm : Str} {sc : Scope} {L fa : Addr} {cd : Value} {n : Nat} {ρ : List (Str × AV)} {H : HM}

inductive ACm (X : Cx prog w) (H : HM) : CmpOp → AV → AV → Bool → Prop
  | base {op a b c} (h : ACmp X H op a b c) : ACm X H op a b c
  | eqD {a b da db} (h1 : toD a = some da) (h2 : toD b = some db) (h3 : shaped da = true) (h4 : shaped db = true) : ACm X H .Eq a b (PyData.eqv da db)
  | neD {a b da db} (h1 : toD a = some da) (h2 : toD b = some db) (h3 : shaped da = true) (h4 : shaped db = true) : ACm X H .NotEq a b (!PyData.eqv da db)
  | inT {a xs da ds} (h1 : toD a = some da) (h2 : toDs xs = some ds) (h3 : shaped da = true) (h4 : PyData.canLayAll0 ds = true) : ACm X H .In a (.tup xs) (ds.any fun y => PyData.eqv y da)
  | ninT {a xs da ds} (h1 : toD a = some da) (h2 : toDs xs = some ds) (h3 : shaped da = true) (h4 : PyData.canLayAll0 ds = true) : ACm X H .NotIn a (.tup xs) (!ds.any fun y => PyData.eqv y da)
  | inTd {k : List Int} {d m} (h : H d = some (.td m)) : ACm X H .In (.tup (k.map .int)) (.ref d) (lookA m k).isSome
  | ninTd {k : List Int} {d m} (h : H d = some (.td m)) : ACm X H .NotIn (.tup (k.map .int)) (.ref d) (!(lookA m k).isSome)

theorem TdIs.isSome {h : Heap} {k : List Int} {xs m} (x : TdIs h xs m) : (atKey xs k).isSome = (lookA m k).isSome := by
  cases q : lookA m k with
  | some v => obtain ⟨p, e, _⟩ := x.look q; rw [e]; rfl
  | none => rw [x.look_none q]; rfl
theorem acm_sound {op : CmpOp} {a b : AV} {c : Bool} (h : ACm X H op a b c) {A : Around} {s : Shared} {v u : Value} (ok : AOk (n + 1) A) (G : GL X L ρ H s) (i : Is s.heap v a) (j : Is s.heap u b) :
    wpAny (model prog w) A (compareOp op v u) (PostL X L Is ρ H s fun x ρ' H' => ρ' = ρ ∧ x = .bool c ∧ H' = H) NoE s := by
  have hu := ok.un
  have room : A.units + 64 < cLine := by rw [cLine_is]; omega
  cases h with
  | base h => exact cmp_sound h (ok.less (Nat.le_succ _)) G i j
  | eqD h1 h2 h3 h4 => exact compareEq_shaped (reads_of i h1) (reads_of j h2) h3 h4 room (here' G (.bool _) ⟨rfl, rfl, rfl⟩)
  | neD h1 h2 h3 h4 => exact compareNe_shaped (reads_of i h1) (reads_of j h2) h3 h4 room (here' G (.bool _) ⟨rfl, rfl, rfl⟩)
  | @inT _ xs da ds h1 h2 h3 h4 =>
    have hj : Reads s.heap u (.tuple ds) [] := reads_of j (by unfold toD; rw [h2]; rfl)
    refine in_tuple_reads hj (reads_of i h1) h4 (canLay_of_shaped h3) ?_ (here' G (.bool _) ⟨rfl, rfl, rfl⟩)
    have := depth_of_shaped h3
    have := Nat.min_le_right (PyData.depthAll ds) da.depth
    rw [cLine_is]; omega
  | @ninT _ xs da ds h1 h2 h3 h4 =>
    have hj : Reads s.heap u (.tuple ds) [] := reads_of j (by unfold toD; rw [h2]; rfl)
    refine notIn_tuple_reads hj (reads_of i h1) h4 (canLay_of_shaped h3) ?_ (here' G (.bool _) ⟨rfl, rfl, rfl⟩)
    have := depth_of_shaped h3
    have := Nat.min_le_right (PyData.depthAll ds) da.depth
    rw [cLine_is]; omega
  | @inTd k d m h =>
    apply j.ref_elim
    obtain ⟨ka, rfl, hk⟩ := key_of (prog := prog) (w := w) i
    obtain ⟨xs, hd, hm⟩ := G.obj h
    rw [← hm.isSome (k := k)]
    exact wpAny_in_heap (knd := tkind prog w) (by show A.units + 1 < cLine; rw [cLine_is]; omega) hk (G.notSys h) hd (here G (.bool _) ⟨rfl, rfl, rfl⟩)
  | @ninTd k d m h =>
    apply j.ref_elim
    obtain ⟨ka, rfl, hk⟩ := key_of (prog := prog) (w := w) i
    obtain ⟨xs, hd, hm⟩ := G.obj h
    rw [← hm.isSome (k := k)]
    exact wpAny_notIn_heap (knd := tkind prog w) (by show A.units + 1 < cLine; rw [cLine_is]; omega) hk (G.notSys h) hd (here G (.bool _) ⟨rfl, rfl, rfl⟩)
theorem pe_cm {l r : Expr} {op : CmpOp} {pos : Pos} {a b : AV} {c : Bool} (hl : PE X (n + 1) nm sc L fa cd ρ H l a) (hr : PE X (n + 1) nm sc L fa cd ρ H r b) (ho : ACm X H op a b c) (hm : behindInMarks op r = false := by with_unfolding_all rfl) :
    PE X (n + 1) nm sc L fa cd ρ H (.Compare l [op] [r] pos) (.bool c) := fun A s ok G =>
  wpAny_Compare1 (stepP (hl A s ok G) fun v s1 i1 G1 x1 => by
    refine stepP (hr A s1 ok G1) fun u s2 i2 G2 x2 => ?_
    exact leaf (x1.trans x2) (acm_sound ho ok G2 (i1.mono x2.tup) i2)) hm
theorem pt_cm {l r : Expr} {op : CmpOp} {pos : Pos} {a b : AV} {c : Bool} (hl : PE X (n + 1) nm sc L fa cd ρ H l a) (hr : PE X (n + 1) nm sc L fa cd ρ H r b) (ho : ACm X H op a b c) (hm : behindInMarks op r = false := by with_unfolding_all rfl) :
    PT X (n + 1) nm sc L fa cd ρ H (.Compare l [op] [r] pos) c := fun A s ok G =>
  wpAny_isTrue_Compare1 (stepP (hl A s ok G) fun v s1 i1 G1 x1 => by
    refine stepP (hr A s1 ok G1) fun u s2 i2 G2 x2 => ?_
    refine stepP (acm_sound ho ok G2 (i1.mono x2.tup) i2) fun z s3 i3 G3 x3 => ?_
    first | apply i3.ref_elim | apply i3.bool_elim | apply i3.ty_elim | apply i3.bi_elim | cases i3
    exact wpAny_truthy_bool (leafP ((x1.trans x2).trans x3) (here' G3 rfl ⟨rfl, rfl, rfl⟩))) hm
end

-- TMeth
section
variable {prog : Program} {w : World} {A : Around} {E : Value → Shared → Prop} {s : Shared} {K : Type} [DecidableEq K] {knd : HeapKind prog w K}

theorem withoutH_eq {xs : List (K × Addr × Value)} {k : K} (hn : (xs.map (·.1)).Nodup) : ∀ {j : Nat} {p : Addr × Value}, xs[j]? = some (k, p) → xs.eraseIdx j = xs.filter fun x => decide (x.1 ≠ k) := by
  induction xs with
  | nil => intro j p e; simp at e
  | cons x xs ih =>
    intro j p e
    rw [List.map_cons, List.nodup_cons] at hn
    cases j with
    | zero =>
      simp only [List.getElem?_cons_zero, Option.some.injEq] at e
      subst e
      rw [List.eraseIdx_cons_zero, List.filter_cons_of_neg (by simp), List.filter_eq_self.mpr]
      intro y hy
      exact decide_eq_true fun q => hn.1 (q ▸ List.mem_map_of_mem (f := (·.1)) hy)
    | succ j =>
      simp only [List.getElem?_cons_succ] at e
      have hmem : k ∈ xs.map (·.1) := List.mem_map.mpr ⟨(k, p), List.mem_of_getElem? e, rfl⟩
      have hne : x.1 ≠ k := fun q => hn.1 (q ▸ hmem)
      rw [List.eraseIdx_cons_succ, List.filter_cons_of_pos (by simpa using hne), ih hn.2 e]
theorem takeOut_heap {d a : Addr} {xs : List (K × Addr × Value)} {k : K} {Q : Option DictEntry → Shared → Prop} (hu : knd.room A) (hkey : knd.is s.heap k a) (hm : s.heap.DictOfH knd d xs)
    (hnone : atKey xs k = none → ∀ tk, Q none { s with toks := tk })
    (hsome : ∀ p, atKey xs k = some p → ∀ e : DictEntry, e.val = p.2 → ∀ h' tk, h'.DictOfH knd d (xs.filter fun x => decide (x.1 ≠ k)) → Heap.SameBut d s.heap h' → Q (some e) { s with heap := h', toks := tk })
    (hsz : xs.length ≤ sizeLine := by size_fits) : wpAny (model prog w) A (Builtin.Dict.takeOut d (.ref a)) Q E s := by
  obtain ⟨o, es, ep, ho, hc, hd, he, his, hn⟩ := hm
  have hes : es.size ≤ sizeLine := by rw [size_of_entries he]; exact hsz
  unfold Builtin.Dict.takeOut
  try with_reducible refine wpAny_holding ?_
  refine wpAny_bind (knd.pyHash hu hkey ?_)
  refine wpAny_bind (wpAny_dictFind_heap (s := { s with toks := s.toks + knd.draws k }) hu hkey ho hd he his hn ?_ ?_)
  · intro hno
    exact wpAny_pure (hnone (atKey_none_of_get hno) _)
  · intro j p hj
    refine wpAny_bind (wpAny_dictEntries (s := { s with toks := s.toks + knd.draws k }) ho hd ?_)
    rw [entry_at he j, hj]
    refine wpAny_bind (wpAny_updateDictKeys (hz := hes) (s := { s with toks := s.toks + knd.draws k }) ho hd (wpAny_pure (hsome p (atKey_of_get hn hj) _ rfl _ _ ?_ (Heap.SameBut.update ..))))
    have hsb : Heap.SameBut d s.heap (s.heap.update d (Obj.mapDictKeys fun x => x.eraseIdxIfInBounds j)) := Heap.SameBut.update ..
    refine ⟨_, _, ep + 1, Heap.get?_update_self _ ho (Obj.isFreed_of_dict (Obj.data_mapDictKeys hd _)), hc.mapDictKeys _, Obj.data_mapDictKeys hd _, ?_, fun x hx => knd.keeps (his x (List.mem_filter.mp hx).1) ho hd hsb, ?_⟩
    · rw [← withoutH_eq hn hj]
      have z : (es.eraseIdxIfInBounds j).toList = es.toList.eraseIdx j := by obtain ⟨l⟩ := es; simp
      rw [z, he]
      clear z hj hsb hes hnone hsome he ho hd hc his hn hsz
      induction xs generalizing j with
      | nil => rfl
      | cons x xs ih => cases j with
        | zero => rfl
        | succ j => simp [ih]
    · exact List.Sublist.nodup (List.filter_sublist.map _) hn
theorem call_dpop {d a : Addr} {xs : List (K × Addr × Value)} {k : K} {rest : List Value} {Q : Value → Shared → Prop} (hds : (d == sysModules) = false) (hu : knd.room A.in1) (hkey : knd.is s.heap k a) (hm : s.heap.DictOfH knd d xs)
    (hrest : rest = [] ∧ atKey xs k ≠ none ∨ ∃ dflt, rest = [dflt])
    (hnone : atKey xs k = none → ∀ tk, ∀ dflt, rest = [dflt] → Q dflt { s with toks := tk })
    (hsome : ∀ p, atKey xs k = some p → ∀ h' tk, h'.DictOfH knd d (xs.filter fun x => decide (x.1 ≠ k)) → Heap.SameBut d s.heap h' → Q p.2 { s with heap := h', toks := tk })
    (hsz : xs.length ≤ sizeLine := by size_fits) : wpAny (model prog w) A (call (.builtin "dict.pop") (.ref d :: .ref a :: rest)) Q E s := by
  refine wpAny_call_entry F.slot_dict_pop hm.typeIs F.entry_dict_pop ?_ (by rcases hrest with ⟨rfl, _⟩ | ⟨x, rfl⟩; exact F.args_dict_pop_2 _ _; exact F.args_dict_pop_3 _ _ _)
  unfold Builtin.«dict.pop»
  refine wpAny_bind ?_
  unfold Builtin.Dict.keyAndDefault
  refine wpAny_bind (wpAny_notOrdered_dict hm.typeIs ?_)
  have hk : (keyPart (.ref a)).isSome = false := rfl
  obtain ⟨o, es, ep, ho, hc, hd, he, his, hn⟩ := id hm
  have hempty : es.isEmpty = true → atKey xs k = none := fun q => by
    have := size_of_entries he
    simp only [Array.isEmpty_iff] at q
    subst q
    cases xs with
    | nil => rfl
    | cons _ _ => simp at this
  rcases hrest with ⟨rfl, hthere⟩ | ⟨dflt, rfl⟩
  · show wpAny _ _ (pure (d, Value.ref a, none)) _ _ s
    refine wpAny_pure ?_
    simp only [hk, Bool.false_eq_true, if_false]
    refine wpAny_bind (wpAny_dictEntries ho hd (wpAny_bind (wpAny_pure ?_)))
    cases q : es.isEmpty with
    | true => exact absurd (hempty q) hthere
    | false =>
      simp only [Bool.false_eq_true, if_false]
      refine wpAny_bind (takeOut_heap hu hkey hm (fun e => absurd e hthere) (fun p e en hv h' tk hm' hs' => ?_) hsz)
      simp only [Option.isNone_some, Bool.false_eq_true, if_false]
      exact wpAny_bind (wpAny_letGo (wpAny_pure ⟨en.val, rfl, by rw [hv]; exact hsome p e h' tk hm' hs'⟩))
  · show wpAny _ _ (pure (d, Value.ref a, some dflt)) _ _ s
    refine wpAny_pure ?_
    simp only [hk, Bool.false_eq_true, if_false]
    refine wpAny_bind (wpAny_dictEntries ho hd (wpAny_bind (wpAny_pure ?_)))
    cases q : es.isEmpty with
    | true =>
      simp only [if_true]
      refine wpAny_bind (wpAny_rule (wpAny_bind (wpAny_pure ?_)))
      simp only [Option.isNone_none, if_true]
      exact wpAny_bind (wpAny_missedRemoval_other hds (wpAny_bind (wpAny_rule (wpAny_pure ⟨_, rfl, hnone (hempty q) s.toks dflt rfl⟩))))
    | false =>
      simp only [Bool.false_eq_true, if_false]
      refine wpAny_bind (takeOut_heap hu hkey hm (fun e tk => ?_) (fun p e en hv h' tk hm' hs' => ?_) hsz)
      · simp only [Option.isNone_none, if_true]
        exact wpAny_bind (wpAny_missedRemoval_other hds (wpAny_bind (wpAny_rule (wpAny_pure ⟨_, rfl, hnone e tk dflt rfl⟩))))
      · simp only [Option.isNone_some, Bool.false_eq_true, if_false]
        exact wpAny_bind (wpAny_letGo (wpAny_pure ⟨en.val, rfl, by rw [hv]; exact hsome p e h' tk hm' hs'⟩))
end

-- TMeth2
section
variable {prog : Program} {w : World} {X : Cx prog w}
variable {nm : Str} {sc : Scope} {L fa : Addr} {cd : Value} {n : Nat} {ρ : List (Str × AV)} {H : HM}

noncomputable def TyOf (X : Cx prog w) (H : HM) (ov : AV) (T : String) : Prop := ∀ s v, Good prog w X.h₀ X.S H s → Is s.heap v ov → s.TypeIs v T ∧ ∀ a, v = .ref a → ∃ o, s.heap.get? a = some o ∧ o.dict = none

theorem Good.at {H : HM} {s : Shared} (G : Good prog w X.h₀ X.S H s) {a : Addr} {ao : AO} (e : At X H a ao) : OIs prog w s.heap a ao := e.elim (fun e => (G.ob _ _ e).1) fun e => (G.st _ _ e).1
theorem ty_lst {a : Addr} {xs : List AV} (h : At X H a (.lst xs)) : TyOf X H (.ref a) "list" := fun s v G i => by
  first | apply i.ref_elim | apply i.bool_elim | apply i.ty_elim | apply i.bi_elim | cases i
  obtain ⟨items, k, e, _⟩ := Good.at G h
  exact ⟨⟨_, e, rfl⟩, fun b q => by cases q; exact ⟨_, e, rfl⟩⟩
theorem ty_sd {a : Addr} {m : List (Str × AV)} (h : At X H a (.sd m)) : TyOf X H (.ref a) "dict" := fun s v G i => by
  first | apply i.ref_elim | apply i.bool_elim | apply i.ty_elim | apply i.bi_elim | cases i
  obtain ⟨kvs, ⟨o, es, ep, ho, hx, r⟩, _⟩ := Good.at G h
  exact ⟨⟨_, ho, hx.1⟩, fun b q => by cases q; exact ⟨_, ho, hx.2.1⟩⟩
theorem ty_td {a : Addr} {m : List (List Int × AV)} (h : At X H a (.td m)) : TyOf X H (.ref a) "dict" := fun s v G i => by
  first | apply i.ref_elim | apply i.bool_elim | apply i.ty_elim | apply i.bi_elim | cases i
  obtain ⟨kvs, ⟨o, es, ep, ho, hx, r⟩, _⟩ := Good.at G h
  exact ⟨⟨_, ho, hx.1⟩, fun b q => by cases q; exact ⟨_, ho, hx.2.1⟩⟩

/-- a built-in type's method, called -/
theorem ev_meth {o : Expr} {name : Str} {apos pos : Pos} {args : List Expr} {ov : AV} {as : List AV} {T id : String} {Q : AV → HM → Prop} (ho : PE X n nm sc L fa cd ρ H o ov) (ha : PEs X n nm sc L fa cd ρ H args as)
    (hT : TyOf X H ov T) (pa : PlainAttrs T) (slot : Slot T name id) (hty : typeOf (.builtin id) = pure (.type "method_descriptor")) (hc : CL X n (.builtin id) (ov :: as) H Q)
    (hplain : (backTo pos (starEach args (envOf nm sc L fa cd))).any (·.1) = false := by rfl) (hne : args ≠ [] := by simp)
    (he : ∃ pl, eval (.Call (.Attribute o name apos) args [] pos) (envOf nm sc L fa cd) = (do
      let ov ← eval o (envOf nm sc L fa cd)
      standAt apos.atName
      let (f, first) ← holding [ov] (getMethod ov name pl)
      callWith pos f first (backTo pos (starEach args (envOf nm sc L fa cd))) []) := by exact ⟨_, rfl⟩) : EV X n nm sc L fa cd ρ H (.Call (.Attribute o name apos) args [] pos) Q := fun A s ok G => by
  obtain ⟨pl, he⟩ := he
  refine MethodCall_ (he := he) (stepP (ho A s ok G) fun v s1 i1 G1 x1 => ?_)
  obtain ⟨hty1, hd1⟩ := hT s1 v G1.glob i1
  refine getMethod_builtin hty1 pa slot hty hd1 ?_
  cases ha with
  | nil => exact absurd rfl hne
  | cons h hs r =>
    rw [hs] at hplain
    refine callWith_method1 (he := hs) (hplain := (Bool.or_eq_false_iff.mp hplain).2) (stepP (spliced_sound (.cons h hs r) ok G1) fun vs s2 i2 G2 x2 => ?_)
    exact leaf (x1.trans x2) (call_back hc ok G2 (.cons (i1.mono x2.tup) i2))

theorem IsL.one {h : Heap} {vs : List Value} {x : AV} (l : IsL h vs [x]) : ∃ v, vs = [v] ∧ Is h v x := by
  cases l with
  | cons a b => cases b; exact ⟨_, rfl, a⟩
theorem IsL.two {h : Heap} {vs : List Value} {x y : AV} (l : IsL h vs [x, y]) : ∃ v u, vs = [v, u] ∧ Is h v x ∧ Is h u y := by
  cases l with
  | cons a b => obtain ⟨u, rfl, i⟩ := b.one; exact ⟨_, u, rfl, a, i⟩
theorem IsL.three {h : Heap} {vs : List Value} {x y z : AV} (l : IsL h vs [x, y, z]) : ∃ v u t, vs = [v, u, t] ∧ Is h v x ∧ Is h u y ∧ Is h t z := by
  cases l with
  | cons a b => obtain ⟨u, t, rfl, i, j⟩ := b.two; exact ⟨_, u, t, rfl, a, i, j⟩
theorem Is.int_inv {h : Heap} {v : Value} {i : Int} (l : Is h v (.int i)) : ∃ t, v = .int i t := by cases l; exact ⟨_, rfl⟩

theorem cl_append {a : Addr} {xs : List AV} {v : AV} (h : H a = some (.lst xs)) (hz : xs.length ≤ 100000) : CL X n (.builtin "list.append") [.ref a, v] H fun b H' => b = .none ∧ H' = H.put a (.lst (xs ++ [v])) := fun A s vs ok G i => by
  obtain ⟨_, u, rfl, i1, i2⟩ := i.two
  first | apply i1.ref_elim | apply i1.bool_elim | apply i1.ty_elim | apply i1.bi_elim | cases i1
  obtain ⟨items, k, e, l⟩ := (G.ob a _ h).1
  have hsz : items.size ≤ sizeLine := by have := l.length; rw [Array.length_toList] at this; rw [sizeLine_eq]; omega
  refine call_meets F.slot_list_append ⟨_, e, rfl⟩ F.entry_list_append (F.args_list_append_2 _ _) (AutoListH.list_append_list_val_0 a items k u hsz) ⟨e, ?_⟩
  obtain ⟨k', e'⟩ : ∃ k', (Obj.mapSeq (fun x => x.push u) (lstObj items k)) = lstObj (items.push u) k' := ⟨_, rfl⟩
  have hg : (s.heap.update a (Obj.mapSeq fun x => x.push u)).get? a = some (lstObj (items.push u) k') := by rw [← e']; exact Heap.get?_update_self _ e (by rw [e']; rfl)
  have tk := tk_of (L := a) (G.ob a _ h).1 (Heap.SameBut.update (a := a) (h := s.heap) (f := Obj.mapSeq fun x => x.push u))
  obtain ⟨g, x⟩ := G.update (s' := { s with heap := s.heap.update a (Obj.mapSeq fun x => x.push u), toks := s.toks }) (ao := .lst (xs ++ [v])) ⟨_, h⟩ (Heap.SameBut.update ..) ⟨_, _, hg, by rw [Array.toList_push]; exact (l.mono tk).append (.cons (i2.mono tk) .nil)⟩ rfl rfl
  exact ⟨.none, _, .none, g, x, rfl, rfl⟩
theorem cl_pop {a : Addr} {xs : List AV} {i : Int} {v : AV} (h : H a = some (.lst xs)) (hz : xs.length ≤ 100000) (h0 : 0 ≤ i) (hv : xs[i.toNat]? = some v) : CL X n (.builtin "list.pop") [.ref a, .int i] H fun b H' => b = v ∧ H' = H.put a (.lst (xs.eraseIdx i.toNat)) := fun A s vs ok G j => by
  obtain ⟨_, u, rfl, i1, i2⟩ := j.two
  first | apply i1.ref_elim | apply i1.bool_elim | apply i1.ty_elim | apply i1.bi_elim | cases i1
  obtain ⟨t, rfl⟩ := i2.int_inv
  obtain ⟨items, k, e, l⟩ := (G.ob a _ h).1
  have hlen : items.size = xs.length := by have := l.length; rwa [Array.length_toList] at this
  have hsz : items.size ≤ sizeLine := by rw [sizeLine_eq]; omega
  obtain ⟨y, hy, iy⟩ := arr_get l hv
  have hlt : i.toNat < items.size := (Array.getElem?_eq_some_iff.mp hy).1
  have hk : seqIndex? i items.size = some i.toNat := by
    have hn : ¬ i < 0 := by omega
    have hq : i < items.size := by omega
    simp [seqIndex?, hn, h0, hq]
  have hfit : Builtin.List.listFitsIndex i = true := by unfold Builtin.List.listFitsIndex; simp; omega
  refine call_meets F.slot_list_pop ⟨_, e, rfl⟩ F.entry_list_pop (F.args_list_pop_2 _ _) (MeetsSeq.list_pop_at a items k i t i.toNat y hfit hk hy hsz) ⟨e, ?_⟩
  obtain ⟨k', e'⟩ : ∃ k', (Obj.mapSeq (fun x => x.eraseIdxIfInBounds i.toNat) (lstObj items k)) = lstObj (items.eraseIdxIfInBounds i.toNat) k' := ⟨_, rfl⟩
  have hg : (s.heap.update a (Obj.mapSeq fun x => x.eraseIdxIfInBounds i.toNat)).get? a = some (lstObj (items.eraseIdxIfInBounds i.toNat) k') := by rw [← e']; exact Heap.get?_update_self _ e (by rw [e']; rfl)
  have tk := tk_of (L := a) (G.ob a _ h).1 (Heap.SameBut.update (a := a) (h := s.heap) (f := Obj.mapSeq fun x => x.eraseIdxIfInBounds i.toNat))
  have z : (items.eraseIdxIfInBounds i.toNat).toList = items.toList.eraseIdx i.toNat := by obtain ⟨l⟩ := items; simp
  have er : ∀ {vs : List Value} {xs : List AV} (_ : IsL s.heap vs xs) (j : Nat), IsL s.heap (vs.eraseIdx j) (xs.eraseIdx j) := by
    intro vs xs l
    induction vs generalizing xs with
    | nil => intro j; cases l; exact .nil
    | cons v vs ih => intro j; cases l with
      | cons a b => cases j with
        | zero => exact b
        | succ j => exact .cons a (ih b j)
  obtain ⟨g, x⟩ := G.update (s' := { s with heap := s.heap.update a (Obj.mapSeq fun x => x.eraseIdxIfInBounds i.toNat) }) (ao := .lst (xs.eraseIdx i.toNat)) ⟨_, h⟩ (Heap.SameBut.update ..) ⟨_, _, hg, by rw [z]; exact (er l _).mono tk⟩ rfl rfl
  exact ⟨v, _, iy.mono tk, g, x, rfl, rfl⟩
theorem cl_dpop {d : Addr} {m : List (List Int × AV)} {k : List Int} {dv : AV} (h : H d = some (.td m)) (hz : m.length ≤ 1000) : CL X (n + 1) (.builtin "dict.pop") [.ref d, .tup (k.map .int), dv] H fun b H' => H' = H.put d (.td (dropA m k)) := fun A s vs ok G j => by
  obtain ⟨_, u, t, rfl, i1, i2, i3⟩ := j.three
  first | apply i1.ref_elim | apply i1.bool_elim | apply i1.ty_elim | apply i1.bi_elim | cases i1
  obtain ⟨ka, rfl, hk⟩ := key_of (prog := prog) (w := w) i2
  obtain ⟨xs, hd, hm⟩ := (G.ob d _ h).1
  have hu := ok.un
  have hds : (d == sysModules) = false := by
    obtain ⟨o, ho⟩ := X.sm
    cases q : d == sysModules with
    | false => rfl
    | true => have z := (G.ob d _ h).2; rw [beq_iff_eq.mp q, ho] at z; cases z
  have hn : (xs.map (·.1)).Nodup := by obtain ⟨_, _, _, _, _, _, _, _, hn⟩ := hd; exact hn
  refine call_dpop (knd := tkind prog w) hds (by show A.units + 1 < cLine; rw [cLine_is]; omega) hk hd (.inr ⟨t, rfl⟩) (fun e tk dflt q => ?_) (fun p e h' tk hm' hs' => ?_) (by rw [hm.length, sizeLine_eq]; omega)
  · cases q
    have e2 : lookA m k = none := by
      cases q : lookA m k with
      | none => rfl
      | some v => obtain ⟨p, e3, _⟩ := hm.look q; rw [e] at e3; cases e3
    have e3 : dropA m k = m := by
      clear hm hn h hz
      induction m with
      | nil => rfl
      | cons x m ih =>
        obtain ⟨k', v⟩ := x
        unfold lookA at e2
        unfold dropA
        by_cases q : k' = k
        · rw [if_pos q] at e2; cases e2
        · rw [if_neg q] at e2 ⊢; rw [ih e2]
    obtain ⟨g, x⟩ := G.grow (s' := { s with toks := tk }) (fun _ _ e => e) rfl rfl
    rw [e3]
    have hp : H.put d (.td m) = H := by funext b; unfold HM.put; split <;> simp_all
    rw [hp]
    exact ⟨dv, _, i3, g, x, rfl⟩
  · have tk' := tk_of (L := d) (G.ob d _ h).1 hs'
    obtain ⟨v, hv⟩ : ∃ v, lookA m k = some v := by
      cases q : lookA m k with
      | some v => exact ⟨v, rfl⟩
      | none => rw [hm.look_none q] at e; cases e
    obtain ⟨p', e', ip⟩ := hm.look hv
    rw [e] at e'; cases e'
    obtain ⟨g, x⟩ := G.update (s' := { s with heap := h', toks := tk }) (ao := .td (dropA m k)) ⟨_, h⟩ hs' ⟨_, hm', (hm.mono tk').drop hn⟩ rfl rfl
    exact ⟨v, _, ip.mono tk', g, x, rfl⟩
theorem cl_dpop1 {d : Addr} {m : List (List Int × AV)} {k : List Int} {v : AV} (h : H d = some (.td m)) (hz : m.length ≤ 1000) (hv : lookA m k = some v) : CL X (n + 1) (.builtin "dict.pop") [.ref d, .tup (k.map .int)] H fun b H' => H' = H.put d (.td (dropA m k)) := fun A s vs ok G j => by
  obtain ⟨_, u, rfl, i1, i2⟩ := j.two
  first | apply i1.ref_elim | apply i1.bool_elim | apply i1.ty_elim | apply i1.bi_elim | cases i1
  obtain ⟨ka, rfl, hk⟩ := key_of (prog := prog) (w := w) i2
  obtain ⟨xs, hd, hm⟩ := (G.ob d _ h).1
  have hu := ok.un
  have hds : (d == sysModules) = false := by
    obtain ⟨o, ho⟩ := X.sm
    cases q : d == sysModules with
    | false => rfl
    | true => have z := (G.ob d _ h).2; rw [beq_iff_eq.mp q, ho] at z; cases z
  have hn : (xs.map (·.1)).Nodup := by obtain ⟨_, _, _, _, _, _, _, _, hn⟩ := hd; exact hn
  obtain ⟨p', e', ip⟩ := hm.look hv
  refine call_dpop (knd := tkind prog w) hds (by show A.units + 1 < cLine; rw [cLine_is]; omega) hk hd (.inl ⟨rfl, by rw [e']; exact fun e => nomatch e⟩) (fun e tk dflt q => by rw [e'] at e; cases e) (fun p e h' tk hm' hs' => ?_) (by rw [hm.length, sizeLine_eq]; omega)
  have tk' := tk_of (L := d) (G.ob d _ h).1 hs'
  rw [e] at e'; cases e'
  obtain ⟨g, x⟩ := G.update (s' := { s with heap := h', toks := tk }) (ao := .td (dropA m k)) ⟨_, h⟩ hs' ⟨_, hm', (hm.mono tk').drop hn⟩ rfl rfl
  exact ⟨v, _, ip.mono tk', g, x, rfl⟩
theorem cl_dget {d : Addr} {m : List (List Int × AV)} {k : List Int} (h : H d = some (.td m)) : PC X (n + 1) (.builtin "dict.get") [.ref d, .tup (k.map .int)] H ((lookA m k).getD .none) := fun A s vs ok G j => by
  obtain ⟨_, u, rfl, i1, i2⟩ := j.two
  first | apply i1.ref_elim | apply i1.bool_elim | apply i1.ty_elim | apply i1.bi_elim | cases i1
  obtain ⟨ka, rfl, hk⟩ := key_of (prog := prog) (w := w) i2
  obtain ⟨xs, hd, hm⟩ := (G.ob d _ h).1
  have hu := ok.un
  have hds : (d == sysModules) = false := by
    obtain ⟨o, ho⟩ := X.sm
    cases q : d == sysModules with
    | false => rfl
    | true => have z := (G.ob d _ h).2; rw [beq_iff_eq.mp q, ho] at z; cases z
  refine call_meetsIn F.slot_dict_get hd.typeIs F.entry_dict_get (F.args_dict_get_2 _ _) (meetsH_dict_get (tkind prog w) d ka hds) ⟨by show A.units + 1 < cLine; rw [cLine_is]; omega, k, xs, hk, hd, ?_⟩
  obtain ⟨g, x⟩ := G.grow (s' := { s with toks := s.toks + (tkind prog w).draws k }) (fun _ _ e => e) rfl rfl
  refine ⟨_, H, ?_, g, x, rfl, rfl⟩
  cases q : lookA m k with
  | none => rw [hm.look_none q]; exact .none
  | some v => obtain ⟨p, e, i⟩ := hm.look q; rw [e]; exact i
end

-- TNew
section
variable {prog : Program} {w : World} {X : Cx prog w}
variable {nm : Str} {sc : Scope} {L fa : Addr} {cd : Value} {n : Nat} {ρ : List (Str × AV)} {H : HM}

/-- a new object under a frame -/
theorem GL.add {s s' : Shared} {a : Addr} {ao : AO} (G : GL X L ρ H s) (k : ∀ b o, s.heap.get? b = some o → s'.heap.get? b = some o) (hn : s.heap.get? a = none) (h' : OIs prog w s'.heap a ao) (hg : s'.gens = s.gens) (ho : s'.os = s.os) :
    GL X L ρ (H.put a ao) s' ∧ Ext (H.put L (.ns ρ)) s ((H.put a ao).put L (.ns ρ)) s' ∧ H a = none := by
  obtain ⟨_, _, h3, ne⟩ := G.new hn
  obtain ⟨g, e⟩ := G.good.add k hn h' hg ho
  rw [put_comm ne] at g e
  exact ⟨⟨by rw [HM.put_ne _ _ (Ne.symm ne)]; exact G.off, g⟩, e, h3⟩

/-- several expressions in order -/
noncomputable def EVL (X : Cx prog w) (n : Nat) (nm : Str) (sc : Scope) (L fa : Addr) (cd : Value) (ρ : List (Str × AV)) (H : HM) (es : List Expr) (Q : List AV → HM → Prop) : Prop :=
  ∀ A s pos, AOk n A → GL X L ρ H s → wpAny (model prog w) A (spliced (backTo pos (starEach es (envOf nm sc L fa cd)))) (PostL X L IsL ρ H s fun b ρ' H' => ρ' = ρ ∧ Q b H') NoE s
theorem evl_nil {Q : List AV → HM → Prop} (q : Q [] H) : EVL X n nm sc L fa cd ρ H [] Q := fun A s pos ok G => args_nil (here' G .nil ⟨rfl, q⟩)
theorem evl_cons {e : Expr} {es : List Expr} {Q : List AV → HM → Prop} (h : EV X n nm sc L fa cd ρ H e fun a H' => EVL X n nm sc L fa cd ρ H' es fun as H'' => Q (a :: as) H'')
    (hs : starEach (e :: es) (envOf nm sc L fa cd) = (false, eval e (envOf nm sc L fa cd)) :: starEach es (envOf nm sc L fa cd) := by rfl) : EVL X n nm sc L fa cd ρ H (e :: es) Q := fun A s pos ok G =>
  args_cons (he := hs) (step (h A s ok G) fun v a ρ1 H1 s1 i1 G1 x1 ⟨e1, q⟩ => by
    subst e1
    refine step (q A s1 pos ok G1) fun vs as ρ2 H2 s2 i2 G2 x2 pq0 => ?_
    obtain ⟨e1, q2⟩ := pq0
    subst e1
    exact leafP (x1.trans x2) (here' G2 (.cons (i1.mono x2.tup) i2) ⟨rfl, q2⟩))
theorem evl_of {es : List Expr} {as : List AV} {Q : List AV → HM → Prop} (h : PEs X n nm sc L fa cd ρ H es as) (q : Q as H) : EVL X n nm sc L fa cd ρ H es Q := fun A s pos ok G =>
  wpAny_mono (spliced_sound (pos := pos) h ok G) (fun _ _ p => p.mono fun _ _ _ ⟨e1, e2, e3⟩ => ⟨e1, by subst e2 e3; exact q⟩) fun _ _ e => e

theorem ev_tuple {es : List Expr} {k : Nat} {pos : Pos} {Q : AV → HM → Prop} (h : EVL X n nm sc L fa cd ρ H es fun as H' => as.length ≤ 1000 ∧ Q (.tup as) H') : EV X n nm sc L fa cd ρ H (.Tuple es k pos) Q := fun A s ok G =>
  Tuple_ (step (h A s pos ok G) fun vs as ρ1 H1 s1 i1 G1 x1 ⟨e1, hz, q⟩ => by
    subst e1
    refine wpAny_newTuple (leafP x1 (done (s' := { s1 with heap := s1.heap.push { cls := .type "tuple", data := .seq vs.toArray } }) G1 (fun b o e => Heap.get?_push_of_some _ e) rfl rfl (Is.tuple (Heap.get?_push_size _ rfl) (i1.grow fun b o e => Heap.get?_push_of_some _ e)) ⟨rfl, q⟩)) ?_
    have := i1.length
    rw [sizeLine_eq]; omega)
theorem ev_list {es : List Expr} {pos : Pos} {Q : AV → HM → Prop} (h : EVL X n nm sc L fa cd ρ H es fun as H' => as.length ≤ 1000 ∧ ∀ a, H' a = none → Q (.ref a) (H'.put a (.lst as))) : EV X n nm sc L fa cd ρ H (.List es pos) Q := fun A s ok G =>
  List_ (step (h A s pos ok G) fun vs as ρ1 H1 s1 i1 G1 x1 ⟨e1, hz, q⟩ => by
    subst e1
    have k : ∀ b o, s1.heap.get? b = some o → (s1.heap.push (lstObj vs.toArray 0)).get? b = some o := fun b o e => Heap.get?_push_of_some _ e
    obtain ⟨G2, x2, off⟩ := G1.add (s' := { s1 with heap := s1.heap.push (lstObj vs.toArray 0) }) (a := s1.heap.objs.size) (ao := .lst as) k (fresh_size _) ⟨_, _, Heap.get?_push_size _ rfl, i1.grow k⟩ rfl rfl
    refine wpAny_newObj_type (leafP (x1.trans x2) (here' (b := .ref s1.heap.objs.size) (s := { s1 with heap := s1.heap.push (lstObj vs.toArray 0) }) G2 (.ref _) ⟨rfl, q _ off⟩)) ?_
    have := i1.length
    show vs.toArray.size ≤ sizeLine
    rw [sizeLine_eq, List.size_toArray]; omega)
/-- a list whose items are stored at -/
theorem ev_arr {es : List Expr} {pos : Pos} {Q : AV → HM → Prop} (h : EVL X n nm sc L fa cd ρ H es fun as H' => as.length ≤ 1000 ∧ ∀ a, H' a = none → Q (.ref a) (H'.put a (.arr as))) : EV X n nm sc L fa cd ρ H (.List es pos) Q := fun A s ok G =>
  List_ (step (h A s pos ok G) fun vs as ρ1 H1 s1 i1 G1 x1 ⟨e1, hz, q⟩ => by
    subst e1
    have k : ∀ b o, s1.heap.get? b = some o → (s1.heap.push (lstObj vs.toArray 0)).get? b = some o := fun b o e => Heap.get?_push_of_some _ e
    obtain ⟨G2, x2, off⟩ := G1.add (s' := { s1 with heap := s1.heap.push (lstObj vs.toArray 0) }) (a := s1.heap.objs.size) (ao := .arr as) k (fresh_size _) ⟨_, ⟨_, Heap.get?_push_size _ rfl, rfl, _, rfl⟩, i1.grow k⟩ rfl rfl
    refine wpAny_newObj_type (leafP (x1.trans x2) (here' (b := .ref s1.heap.objs.size) (s := { s1 with heap := s1.heap.push (lstObj vs.toArray 0) }) G2 (.ref _) ⟨rfl, q _ off⟩)) ?_
    have := i1.length
    show vs.toArray.size ≤ sizeLine
    rw [sizeLine_eq, List.size_toArray]; omega)
theorem ev_dict0t {pos : Pos} {Q : AV → HM → Prop} (q : ∀ a, H a = none → Q (.ref a) (H.put a (.td []))) : EV X n nm sc L fa cd ρ H (.Dict [] [] pos) Q := fun A s ok G => by
  have k : ∀ b o, s.heap.get? b = some o → (s.heap.push { cls := .type "dict", data := .dict #[] }).get? b = some o := fun b o e => Heap.get?_push_of_some _ e
  obtain ⟨G2, x2, off⟩ := G.add (s' := { s with heap := s.heap.push { cls := .type "dict", data := .dict #[] } }) (a := s.heap.objs.size) (ao := .td []) k (fresh_size _) ⟨_, Heap.DictOfH.new (knd := tkind prog w) s.heap, .nil⟩ rfl rfl
  exact wpAny_Dict_empty (leafP x2 (here' (b := .ref s.heap.objs.size) (s := { s with heap := s.heap.push { cls := .type "dict", data := .dict #[] } }) G2 (.ref _) ⟨rfl, q _ off⟩))

-- displays of dicts with str keys
noncomputable def mergeA (acc more : List (Str × AV)) : List (Str × AV) := more.foldl (fun acc kv => storeA acc kv.1 kv.2) acc
theorem nodup_stored {V : Type} {kvs : List (Str × Value)} {k : Str} {v : Value} (h : (kvs.map (·.1)).Nodup) : ((stored kvs k v).map (·.1)).Nodup := by
  unfold stored
  split
  · have : ((kvs.map fun kv => if kv.1 = k then (kv.1, v) else kv).map (·.1)) = kvs.map (·.1) := by
      rw [List.map_map]; apply List.map_congr_left; intro x _; simp only [Function.comp]; split <;> rfl
    rw [this]; exact h
  · rename_i hn
    rw [List.map_append, List.nodup_append]
    refine ⟨h, by simp, ?_⟩
    intro a ha b hb
    simp at hb
    subst hb
    intro e
    subst e
    apply hn
    obtain ⟨x, hx, e⟩ := List.mem_map.mp ha
    rw [List.any_eq_true]
    exact ⟨x, hx, by simp [e]⟩
theorem SdIs.merge {h : Heap} : ∀ {kvs : List (Str × Value)} {m : List (Str × AV)}, SdIs h kvs m → ∀ {acc accm}, SdIs h acc accm → (acc.map (·.1)).Nodup → SdIs h (merged acc kvs) (mergeA accm m)
  | _, _, .nil, _, _, a, _ => a
  | _, _, .cons i r, _, _, a, hn => SdIs.merge r (SdIs.store i a hn) (nodup_stored (V := Unit) hn)

noncomputable def EVD (X : Cx prog w) (n : Nat) (nm : Str) (sc : Scope) (L fa : Addr) (cd : Value) (ρ : List (Str × AV)) (H : HM) (keys : List (Option Expr)) (values : List Expr) (Q : List (Str × AV) → HM → Prop) : Prop :=
  ∀ A s pos, AOk n A → GL X L ρ H s → wpAny (model prog w) A (evalPairs (pairTrees keys values (envOf nm sc L fa cd) pos)) (PostL X L (fun h vs m => ∃ kvs, Carries (strKind prog w) vs kvs ∧ SdIs h kvs m) ρ H s fun m ρ' H' => ρ' = ρ ∧ Q m H') NoE s
theorem evd_nil {Q : List (Str × AV) → HM → Prop} (q : Q [] H) : EVD X n nm sc L fa cd ρ H [] [] Q := fun A s pos ok G => evalPairs_nil (here' (R := fun h vs m => ∃ kvs, Carries (strKind prog w) vs kvs ∧ SdIs h kvs m) (b := []) G ⟨[], trivial, .nil⟩ ⟨rfl, q⟩)
theorem evd_cons {k : Str} {kk : Nat} {p : Pos} {e : Expr} {keys : List (Option Expr)} {values : List Expr} {Q : List (Str × AV) → HM → Prop} (h : EV X n nm sc L fa cd ρ H e fun a H' => EVD X n nm sc L fa cd ρ H' keys values fun m H'' => Q ((k, a) :: m) H'') :
    EVD X n nm sc L fa cd ρ H (some (.Constant (.str k) kk p) :: keys) (e :: values) Q := fun A s pos ok G => by
  refine evalPairs_cons (wpAny_Constant_str ?_)
  obtain ⟨G0, x0⟩ := G.grow (s' := { s with toks := s.toks + 1 }) (fun _ _ e => e) rfl rfl
  refine wpAny_bind (step (h A _ ok G0) fun v a ρ1 H1 s1 i1 G1 x1 pq0 => ?_)
  obtain ⟨e1, q⟩ := pq0
  subst e1
  refine wpAny_bind (wpAny_standAt (wpAny_pure ?_))
  refine step (q A s1 pos ok G1) fun vs m ρ2 H2 s2 pq0 G2 x2 pq1 => ?_
  obtain ⟨kvs, hc, hm⟩ := pq0
  obtain ⟨e1, q2⟩ := pq1
  subst e1
  exact leafP ((x0.trans x1).trans x2) (here' (R := fun h vs m => ∃ kvs, Carries (strKind prog w) vs kvs ∧ SdIs h kvs m) (b := (k, a) :: m) G2 ⟨(k, v) :: kvs, ⟨strKind_is prog w _ _, rfl, hc⟩, .cons (i1.mono x2.tup) hm⟩ ⟨rfl, q2⟩)
theorem ev_dict {keys : List (Option Expr)} {values : List Expr} {pos : Pos} {Q : AV → HM → Prop} (h : ∀ a, H a = none → EVD X n nm sc L fa cd ρ (H.put a (.sd [])) keys values fun m H' => H' a = some (.sd []) ∧ Q (.ref a) (H'.put a (.sd (mergeA [] m))))
    (hall : keys.all (·.isSome) = true := by rfl) (hl : keys.length = values.length := by rfl) (h0 : keys ≠ [] := by simp) (hlen : keys.length ≤ 15 := by decide) : EV X n nm sc L fa cd ρ H (.Dict keys values pos) Q := fun A s ok G => by
  have k : ∀ b o, s.heap.get? b = some o → (s.heap.push { cls := .type "dict", data := .dict #[] }).get? b = some o := fun b o e => Heap.get?_push_of_some _ e
  obtain ⟨G1, x1, off⟩ := G.add (s' := { s with heap := s.heap.push { cls := .type "dict", data := .dict #[] } }) (a := s.heap.objs.size) (ao := .sd []) k (fresh_size _) ⟨_, Heap.DictOf.new (knd := strKind prog w) s.heap, .nil⟩ rfl rfl
  refine wpAny_Dict_walk (knd := strKind prog w) hall hl h0 hlen ?_
  refine step (h _ off A _ pos ok G1) fun vs m ρ2 H2 s2 pq0 G2 x2 pq1 => ?_
  obtain ⟨kvs, hc, hm⟩ := pq0
  obtain ⟨e1, ha, q⟩ := pq1
  subst e1
  obtain ⟨kv0, hd0, hm0⟩ := G2.obj ha
  cases hm0
  refine ⟨kvs, hc, hd0, fun h' hd' hs' => ?_⟩
  have tk := tk_of (L := L) (G2.obj ha) hs'
  obtain ⟨g, e⟩ := G2.upd (s' := { s2 with heap := h', toks := s2.toks + vs.length }) (ao := .sd (mergeA [] m)) ha hs' ⟨_, hd', (hm.mono tk).merge .nil List.nodup_nil⟩ rfl rfl
  exact leafP ((x1.trans x2).trans e) (here' (b := .ref s.heap.objs.size) (s := { s2 with heap := h', toks := s2.toks + vs.length }) g (.ref _) ⟨rfl, q⟩)

-- calls with arguments that turn the heap
theorem ev_callE {func : Expr} {args : List Expr} {pos : Pos} {f : Addr} {fd : FuncData} {Q : AV → HM → Prop} (F : FnAt X f fd) (hf : PE X n nm sc L fa cd ρ H func (.ref f)) (ha : EVL X n nm sc L fa cd ρ H args fun as H' => CL X n (.ref f) as H' Q)
    (hne : args ≠ [] := by simp) (hstar : ∀ e r, args = e :: r → starEach (e :: r) (envOf nm sc L fa cd) = (false, eval e (envOf nm sc L fa cd)) :: starEach r (envOf nm sc L fa cd) := by intro _ _ e; cases e; rfl)
    (he : eval (.Call func args [] pos) (envOf nm sc L fa cd) = (do callWith pos (← eval func (envOf nm sc L fa cd)) [] (backTo pos (starEach args (envOf nm sc L fa cd))) (backToKw pos (keywordEach [] (envOf nm sc L fa cd)))) := by rfl) :
    EV X n nm sc L fa cd ρ H (.Call func args [] pos) Q := fun A s ok G =>
  Call_ (he := he) (stepP (hf A s ok G) fun v s1 i1 G1 x1 => by
    first | apply i1.ref_elim | apply i1.bool_elim | apply i1.ty_elim | apply i1.bi_elim | cases i1
    obtain ⟨o, ho, hd⟩ := F.ob
    cases args with
    | nil => exact absurd rfl hne
    | cons e r =>
      refine callWith_def hd (he := hstar e r rfl) (step (ha A s1 pos ok G1) fun vs as ρ2 H2 s2 i2 G2 x2 pq0 => ?_)
      obtain ⟨e1, q⟩ := pq0
      subst e1
      exact ⟨G2.keep _ _ ho, leaf (x1.trans x2) (call_back q ok G2 i2)⟩)
theorem ev_methE {o : Expr} {name : Str} {apos pos : Pos} {args : List Expr} {ov : AV} {T id : String} {Q : AV → HM → Prop} (ho : PE X n nm sc L fa cd ρ H o ov) (ha : EVL X n nm sc L fa cd ρ H args fun as H' => CL X n (.builtin id) (ov :: as) H' Q)
    (hT : TyOf X H ov T) (pa : PlainAttrs T) (slot : Slot T name id) (hty : typeOf (.builtin id) = pure (.type "method_descriptor"))
    (hne : args ≠ [] := by simp) (hstar : ∀ e r, args = e :: r → starEach (e :: r) (envOf nm sc L fa cd) = (false, eval e (envOf nm sc L fa cd)) :: starEach r (envOf nm sc L fa cd) := by intro _ _ e; cases e; rfl)
    (hplain : ∀ e r, args = e :: r → (backTo pos (starEach r (envOf nm sc L fa cd))).any (·.1) = false := by intro _ _ e; cases e; rfl)
    (he : ∃ pl, eval (.Call (.Attribute o name apos) args [] pos) (envOf nm sc L fa cd) = (do
      let ov ← eval o (envOf nm sc L fa cd)
      standAt apos.atName
      let (f, first) ← holding [ov] (getMethod ov name pl)
      callWith pos f first (backTo pos (starEach args (envOf nm sc L fa cd))) []) := by exact ⟨_, rfl⟩) : EV X n nm sc L fa cd ρ H (.Call (.Attribute o name apos) args [] pos) Q := fun A s ok G => by
  obtain ⟨pl, he⟩ := he
  refine MethodCall_ (he := he) (stepP (ho A s ok G) fun v s1 i1 G1 x1 => ?_)
  obtain ⟨hty1, hd1⟩ := hT s1 v G1.glob i1
  refine getMethod_builtin hty1 pa slot hty hd1 ?_
  cases args with
  | nil => exact absurd rfl hne
  | cons e r =>
    refine callWith_method1 (he := hstar e r rfl) (hplain := hplain e r rfl) (step (ha A s1 pos ok G1) fun vs as ρ2 H2 s2 i2 G2 x2 pq0 => ?_)
    obtain ⟨e1, q⟩ := pq0
    subst e1
    exact leaf (x1.trans x2) (call_back q ok G2 (.cons (i1.mono x2.tup) i2))

-- built-in functions
theorem cl_len {a : Addr} {xs : List AV} (h : At X H a (.lst xs)) (hz : xs.length < 100000) : PC X n (.builtin "len") [.ref a] H (.int xs.length) := fun A s vs ok G i => by
  obtain ⟨_, rfl, i1⟩ := i.one
  first | apply i1.ref_elim | apply i1.bool_elim | apply i1.ty_elim | apply i1.bi_elim | cases i1
  obtain ⟨items, k, e, l⟩ := Good.at G h
  have hlen : items.size = xs.length := by have := l.length; rwa [Array.length_toList] at this
  obtain ⟨g, x⟩ := G.grow (s' := { s with toks := s.toks + 1 + 1 }) (fun _ _ e => e) rfl rfl
  have hl : s.heap.IsList a items := ⟨_, e, rfl, _, rfl⟩
  refine call_len_list hl (by omega) ?_
  exact ⟨.int items.size, H, .int _ _, g, x, by rw [hlen], rfl⟩
theorem cl_abs {i : Int} : PC X n (.builtin "abs") [.int i] H (.int (if i < 0 then -i else i)) := fun A s vs ok G j => by
  obtain ⟨_, rfl, j1⟩ := j.one
  obtain ⟨t, rfl⟩ := j1.int_inv
  refine call_abs_int fun u tk => ?_
  obtain ⟨g, x⟩ := G.grow (s' := { s with toks := tk }) (fun _ _ e => e) rfl rfl
  exact ⟨_, H, .int _ _, g, x, rfl, rfl⟩
theorem cl_min {a b : Int} : PC X n (.builtin "min") [.int a, .int b] H (.int (if b < a then b else a)) := fun A s vs ok G j => by
  obtain ⟨_, _, rfl, j1, j'⟩ := j.two
  obtain ⟨t, rfl⟩ := j1.int_inv
  obtain ⟨u, rfl⟩ := j'.int_inv
  refine min_two_ints ok.hd fun h' tk hk => ?_
  obtain ⟨g, x⟩ := G.grow (s' := { s with heap := h', toks := tk }) hk rfl rfl
  refine ⟨_, H, ?_, g, x, rfl, rfl⟩
  split <;> exact .int _ _
end

-- TSlice
section
variable {prog : Program} {w : World} {A : Around} {E : Value → Shared → Prop} {s : Shared}
theorem adjust_run (a b n : Nat) (hab : a ≤ b) (hb : b ≤ n) : Builtin.Slice.sliceAdjust (some (a : Int)) (some (b : Int)) 1 (n : Int) = ((a : Int), (b : Int)) := by
  unfold Builtin.Slice.sliceAdjust
  have h1 : ¬ ((1 : Int) < 0) := by omega
  have h2 : ¬ ((a : Int) < 0) := by omega
  have h3 : ¬ ((b : Int) < 0) := by omega
  simp only [h1, h2, h3, if_false]
  congr 1 <;> omega
theorem applied_run {sl : Addr} {a b n : Nat} {u v : Tok} {Q : Int × Int × Nat → Shared → Prop} (hs : s.heap.IsSliceOf sl (.int a u) (.int b v) .none) (hab : a ≤ b) (hb : b ≤ n) (h : Q ((a : Int), 1, b - a) s) :
    wpAny (model prog w) A (Builtin.Slice.sliceApplied (.ref sl) (pure (n : Int))) Q E s := by
  obtain ⟨os, hos, hcs, hds⟩ := id hs
  unfold Builtin.Slice.sliceApplied Builtin.Slice.sliceFields
  refine wpAny_bind (wpAny_bind (wpAny_field hos hds (x := .int a u) rfl (wpAny_bind (wpAny_field hos hds (x := .int b v) rfl (wpAny_bind (wpAny_field hos hds (x := .none) rfl (wpAny_pure ?_)))))))
  refine wpAny_bind (slicePart_none ?_)
  show wpAny _ _ (if ((1 : Int) == 0) = true then _ else _) _ _ s
  rw [if_neg (by decide)]
  refine wpAny_bind (slicePart_int (wpAny_bind (slicePart_int (wpAny_bind (wpAny_pure ?_)))))
  show wpAny _ _ (match Builtin.Slice.sliceAdjust (some (a : Int)) (some (b : Int)) 1 (n : Int) with | (lo, hi) => pure (lo, (1 : Int), Builtin.Slice.slicePlaces lo hi 1)) _ _ s
  rw [adjust_run a b n hab hb]
  show wpAny _ _ (pure ((a : Int), (1 : Int), Builtin.Slice.slicePlaces (a : Int) (b : Int) 1)) _ _ s
  rw [places_from a b hab]
  exact wpAny_pure h
theorem pick_run' (xs : Array Value) (a k : Nat) : ((List.range k).filterMap fun (k : Nat) => xs[((a : Int) + (k : Int) * 1).toNat]?).toArray = ((xs.toList.drop a).take k).toArray := by
  have e : (fun (k : Nat) => xs[((a : Int) + (k : Int) * 1).toNat]?) = fun k => xs[a + k]? := by
    funext k
    have : ((a : Int) + (k : Int) * 1).toNat = a + k := by omega
    rw [this]
  rw [e]
  have := pick_run xs a k
  rw [List.filterMap_map] at this
  have e2 : ((fun x => xs[x]?) ∘ fun x => a + x) = fun k => xs[a + k]? := rfl
  rw [e2] at this
  rw [this]
theorem getItem_run {t sl : Addr} {items : Array Value} {a b : Nat} {u v : Tok} {Q : Value → Shared → Prop} (ht : IsTup s.heap t items) (hs : s.heap.IsSliceOf sl (.int a u) (.int b v) .none) (h1 : 1 ≤ a) (hab : a ≤ b) (hb : b ≤ items.size)
    (h : Q (.ref s.heap.objs.size) { s with heap := s.heap.push { cls := .type "tuple", data := .seq ((items.toList.drop a).take (b - a)).toArray } })
    (hsz : items.size ≤ sizeLine := by size_fits) : wpAny (model prog w) A (getItem (.ref t) (.ref sl)) Q E s := by
  have hdrop : sizeOk (.seq ((items.toList.drop a).take (b - a)).toArray) := by
    show ((items.toList.drop a).take (b - a)).toArray.size ≤ sizeLine
    rw [List.size_toArray, List.length_take, List.length_drop, Array.length_toList]
    omega
  obtain ⟨os, hos, hcs, hds⟩ := id hs
  have hTs : s.TypeIs (.ref sl) "slice" := ⟨os, hos, hcs⟩
  unfold getItem
  try with_reducible refine wpAny_holding ?_
  first | refine wpAny_bind (wpAny_pure ?_) | skip
  refine wpAny_bind (wpAny_sequenceKey ht.typeIs (by decide) ?_)
  refine wpAny_bind (wpAny_callSpecial?_slot (name := Str.ofString "__getitem__") ht.typeIs slot_tuple_getitem
    (wpAny_call_entry slot_tuple_getitem ht.typeIs entry_tuple_getitem ?_ (args_tuple_getitem _ _)))
  show wpAny _ _ (Builtin.Tuple.tupleItemsOf (.ref t) >>= _) _ _ s
  refine wpAny_bind (tupleItemsOf_ ht ?_)
  refine wpAny_bind (wpAny_typeOf hTs ?_)
  rw [if_pos (by decide)]
  refine wpAny_bind (applied_run hs hab hb ?_)
  have hno : ¬ (((a : Int) == 0 && (1 : Int) == 1 && (b - a) == items.size) = true) := by
    have : ((a : Int) == 0) = false := by rw [beq_eq_false_iff_ne]; omega
    rw [this]; simp
  show wpAny _ _ (if ((a : Int) == 0 && (1 : Int) == 1 && (b - a) == items.size) = true then _ else _) _ _ s
  rw [if_neg hno, pick_run' items a (b - a)]
  first
    | exact wpAny_bind (m := Builtin.Tuple.tupleExact _) (wpAny_newObj_type (wpAny_pure ⟨_, rfl, wpAny_pure h⟩) hdrop)
    | exact wpAny_bind (m := Builtin.Tuple.tupleExact _) (wpAny_newObj_type (wpAny_bind (wpAny_pure (wpAny_pure ⟨_, rfl, wpAny_pure h⟩))) hdrop)
    | exact wpAny_bind (wpAny_bind (m := Builtin.Tuple.tupleExact _) (wpAny_newObj_type (wpAny_pure (wpAny_pure ⟨_, rfl, wpAny_pure h⟩)) hdrop))
    | exact wpAny_bind (wpAny_bind (m := Builtin.Tuple.tupleExact _) (wpAny_newObj_type (wpAny_pure ⟨_, rfl, wpAny_pure h⟩) hdrop))
end

section
variable {prog : Program} {w : World} {X : Cx prog w}
variable {nm : Str} {sc : Scope} {L fa : Addr} {cd : Value} {n : Nat} {ρ : List (Str × AV)} {H : HM}

/-- a slice's object -/
theorem slice_sound {lo hi : Option Expr} {p : Pos} {A : Around} {s : Shared} {Q : Value → Shared → Prop} (ok : AOk n A) (G : GL X L ρ H s) {la ua : AV} (hl : (lo = none ∧ la = .none) ∨ ∃ e, lo = some e ∧ PE X n nm sc L fa cd ρ H e la)
    (hu : (hi = none ∧ ua = .none) ∨ ∃ e, hi = some e ∧ PE X n nm sc L fa cd ρ H e ua)
    (q : ∀ s' lv uv, Is s'.heap lv la → Is s'.heap uv ua → GL X L ρ H s' → Ext (H.put L (.ns ρ)) s (H.put L (.ns ρ)) s' → Q (.ref s'.heap.objs.size) { s' with heap := s'.heap.push { cls := .type "slice", data := .fields #[lv, uv, .none] } }) :
    wpAny (model prog w) A (eval (.Slice lo hi none p) (envOf nm sc L fa cd)) Q NoE s := by
  have part : ∀ {o : Option Expr} {a : AV} {s : Shared}, GL X L ρ H s → ((o = none ∧ a = .none) ∨ ∃ e, o = some e ∧ PE X n nm sc L fa cd ρ H e a) → ∀ {P : Value → Shared → Prop},
      (∀ v s', Is s'.heap v a → GL X L ρ H s' → Ext (H.put L (.ns ρ)) s (H.put L (.ns ρ)) s' → P v s') → wpAny (model prog w) A (evalPart o (envOf nm sc L fa cd)) P NoE s := fun G h P k => by
    rcases h with ⟨rfl, rfl⟩ | ⟨e, rfl, h⟩
    · exact wpAny_pure (k _ _ .none G (.refl _ _))
    · refine stepP (h A _ ok G) fun v s1 i1 G1 x1 => ?_
      exact k _ _ i1 G1 x1
  refine wpAny_Slice (part G hl fun v s1 i1 G1 x1 => part G1 hu fun u s2 i2 G2 x2 => wpAny_pure ?_)
  exact q s2 v u (i1.mono x2.tup) i2 G2 (x1.trans x2)

theorem IsL.arr_drop {h : Heap} {items : Array Value} {xs : List AV} (l : IsL h items.toList xs) (k : Nat) : IsL h ((items.toList.drop k).toArray).toList (xs.drop k) := by simpa using l.drop k

/-- t[a:] of a tuple -/
theorem pe_tup_from {value lo : Expr} {p pos : Pos} {xs : List AV} {a : Nat} (hv : PE X n nm sc L fa cd ρ H value (.tup xs)) (hlo : PE X n nm sc L fa cd ρ H lo (.int a)) (h1 : 1 ≤ a) (ha : a ≤ xs.length) (hz : xs.length ≤ 1000)
    (hs : ∀ o i, subscripted (.Slice (some lo) none none p) false o i = operate [i, o] (getItem o i) := by intros; rfl) : PE X n nm sc L fa cd ρ H (.Subscript value (.Slice (some lo) none none p) pos) (.tup (xs.drop a)) := fun A s ok G =>
  Subscript_ (stepP (hv A s ok G) fun v s1 i1 G1 x1 => by
    refine slice_sound ok G1 (.inr ⟨_, rfl, hlo⟩) (.inl ⟨rfl, rfl⟩) fun s2 lv uv j1 j2 G2 x2 => ?_
    cases j2
    obtain ⟨t, rfl⟩ := j1.int_inv
    have k1 : ∀ b o, s2.heap.get? b = some o → (s2.heap.push { cls := .type "slice", data := .fields #[.int a t, .none, .none] }).get? b = some o := fun b o e => Heap.get?_push_of_some _ e
    have i2 := (i1.mono x2.tup).mono fun a o e _ => k1 a o e
    cases i2 with
    | @tup _ _ items _ _ e c d l =>
    have ht : IsTup (s2.heap.push { cls := .type "slice", data := .fields #[.int a t, .none, .none] }) _ items := ⟨_, e, c, _, d⟩
    have hlen : items.size = xs.length := by have := l.length; rwa [Array.length_toList] at this
    refine tail_any (s := { s2 with heap := s2.heap.push { cls := .type "slice", data := .fields #[.int a t, .none, .none] } }) ht.typeIs slot_tuple_getitem.lookup (getItem_tuple_from ht (Heap.IsSliceOf.new ..) h1 (by omega) ?_ (by rw [sizeLine_eq]; omega)) (hs _ _)
    have k2 : ∀ b o, (s2.heap.push { cls := .type "slice", data := .fields #[.int a t, .none, .none] }).get? b = some o → ((s2.heap.push { cls := .type "slice", data := .fields #[.int a t, .none, .none] }).push { cls := .type "tuple", data := .seq (items.toList.drop a).toArray }).get? b = some o := fun b o e => Heap.get?_push_of_some _ e
    refine leafP (x1.trans x2) (done (s' := { s2 with heap := (s2.heap.push { cls := .type "slice", data := .fields #[.int a t, .none, .none] }).push { cls := .type "tuple", data := .seq (items.toList.drop a).toArray } }) G2 (fun b o e => k2 _ _ (k1 _ _ e)) rfl rfl ?_ ⟨rfl, rfl, rfl⟩)
    exact .tup (Heap.get?_push_size _ rfl) rfl rfl ((l.grow k2).arr_drop a))
/-- t[a:b] of a tuple -/
theorem pe_tup_run {value lo hi : Expr} {p pos : Pos} {xs : List AV} {a b : Nat} (hv : PE X n nm sc L fa cd ρ H value (.tup xs)) (hlo : PE X n nm sc L fa cd ρ H lo (.int a)) (hhi : PE X n nm sc L fa cd ρ H hi (.int b)) (h1 : 1 ≤ a) (hab : a ≤ b) (hb : b ≤ xs.length) (hz : xs.length ≤ 1000)
    (hs : ∀ o i, subscripted (.Slice (some lo) (some hi) none p) false o i = operate [i, o] (getItem o i) := by intros; rfl) : PE X n nm sc L fa cd ρ H (.Subscript value (.Slice (some lo) (some hi) none p) pos) (.tup ((xs.drop a).take (b - a))) := fun A s ok G =>
  Subscript_ (stepP (hv A s ok G) fun v s1 i1 G1 x1 => by
    refine slice_sound ok G1 (.inr ⟨_, rfl, hlo⟩) (.inr ⟨_, rfl, hhi⟩) fun s2 lv uv j1 j2 G2 x2 => ?_
    obtain ⟨u, rfl⟩ := j2.int_inv
    obtain ⟨t, rfl⟩ := j1.int_inv
    have k1 : ∀ c o, s2.heap.get? c = some o → (s2.heap.push { cls := .type "slice", data := .fields #[.int a t, .int b u, .none] }).get? c = some o := fun b o e => Heap.get?_push_of_some _ e
    have i2 := (i1.mono x2.tup).mono fun a o e _ => k1 a o e
    cases i2 with
    | @tup _ _ items _ _ e c d l =>
    have ht : IsTup (s2.heap.push { cls := .type "slice", data := .fields #[.int a t, .int b u, .none] }) _ items := ⟨_, e, c, _, d⟩
    have hlen : items.size = xs.length := by have := l.length; rwa [Array.length_toList] at this
    refine tail_any (s := { s2 with heap := s2.heap.push { cls := .type "slice", data := .fields #[.int a t, .int b u, .none] } }) ht.typeIs slot_tuple_getitem.lookup (getItem_run ht (Heap.IsSliceOf.new ..) h1 hab (by omega) ?_ (by rw [sizeLine_eq]; omega)) (hs _ _)
    have k2 : ∀ c o, (s2.heap.push { cls := .type "slice", data := .fields #[.int a t, .int b u, .none] }).get? c = some o → ((s2.heap.push { cls := .type "slice", data := .fields #[.int a t, .int b u, .none] }).push { cls := .type "tuple", data := .seq ((items.toList.drop a).take (b - a)).toArray }).get? c = some o := fun b o e => Heap.get?_push_of_some _ e
    refine leafP (x1.trans x2) (done (s' := { s2 with heap := (s2.heap.push { cls := .type "slice", data := .fields #[.int a t, .int b u, .none] }).push { cls := .type "tuple", data := .seq ((items.toList.drop a).take (b - a)).toArray } }) G2 (fun b o e => k2 _ _ (k1 _ _ e)) rfl rfl ?_ ⟨rfl, rfl, rfl⟩)
    exact .tup (Heap.get?_push_size _ rfl) rfl rfl (by simpa using ((l.grow k2).drop a).take (b - a)))
/-- l[:b] of a list -/
theorem ev_lst_upto {value hi : Expr} {p pos : Pos} {b : Nat} {Q : AV → HM → Prop} (hv : EV X n nm sc L fa cd ρ H value fun a H' => ∃ d xs, a = .ref d ∧ At X H' d (.lst xs) ∧ xs.length ≤ 2000000 ∧ PE X n nm sc L fa cd ρ H' hi (.int b) ∧ ∀ c, H' c = none → Q (.ref c) (H'.put c (.lst (xs.take b))))
    (hs : ∀ o i, subscripted (.Slice none (some hi) none p) false o i = operate [i, o] (getItem o i) := by intros; rfl) : EV X n nm sc L fa cd ρ H (.Subscript value (.Slice none (some hi) none p) pos) Q := fun A s ok G =>
  Subscript_ (step (hv A s ok G) fun v _ _ _ s1 i1 G1 x1 ⟨e1, d, xs, e2, ha, hz, hhi, q⟩ => by
    subst e1 e2
    first | apply i1.ref_elim | apply i1.bool_elim | apply i1.ty_elim | apply i1.bi_elim | cases i1
    refine slice_sound ok G1 (.inl ⟨rfl, rfl⟩) (.inr ⟨_, rfl, hhi⟩) fun s2 lv uv j1 j2 G2 x2 => ?_
    cases j1
    obtain ⟨u, rfl⟩ := j2.int_inv
    have k1 : ∀ c o, s2.heap.get? c = some o → (s2.heap.push { cls := .type "slice", data := .fields #[.none, .int b u, .none] }).get? c = some o := fun b o e => Heap.get?_push_of_some _ e
    obtain ⟨items, k, e, l⟩ := G2.at ha
    have hl : Heap.IsList (s2.heap.push { cls := .type "slice", data := .fields #[.none, .int b u, .none] }) d items := ⟨_, k1 _ _ e, rfl, _, rfl⟩
    have hlen : items.size = xs.length := by have := l.length; rwa [Array.length_toList] at this
    refine tail_any (s := { s2 with heap := s2.heap.push { cls := .type "slice", data := .fields #[.none, .int b u, .none] } }) hl.typeIs slot_list_getitem.lookup (wpAny_getItem_list_slice (lo := none) (hi := some b) (st := none) hl (Heap.IsSliceOf.new ..) .none (.int _ _) .none (by simp) ?_ (by rw [sizeLine_eq]; omega)) (hs _ _)
    have k2 : ∀ c o, (s2.heap.push { cls := .type "slice", data := .fields #[.none, .int b u, .none] }).get? c = some o → ((s2.heap.push { cls := .type "slice", data := .fields #[.none, .int b u, .none] }).push (lstObj (slicePick items none (some b) none) 0)).get? c = some o := fun b o e => Heap.get?_push_of_some _ e
    have hL : IsL ((s2.heap.push { cls := .type "slice", data := .fields #[.none, .int b u, .none] }).push (lstObj (slicePick items none (some b) none) 0)) (slicePick items none (some b) none).toList (xs.take b) := by
      have z := (l.grow fun c o e => k2 c o (k1 c o e)).take b
      have e : (slicePick items none (some b) none).toList = items.toList.take b := by rw [slicePick_upto']
      rw [e]; exact z
    obtain ⟨G3, x3⟩ := G2.grow (s' := { s2 with heap := s2.heap.push { cls := .type "slice", data := .fields #[.none, .int b u, .none] } }) k1 rfl rfl
    obtain ⟨G4, x4, off⟩ := G3.add (s' := { s2 with heap := (s2.heap.push { cls := .type "slice", data := .fields #[.none, .int b u, .none] }).push (lstObj (slicePick items none (some b) none) 0) }) (ao := .lst (xs.take b)) k2 (fresh_size _) ⟨_, _, Heap.get?_push_size _ rfl, hL⟩ rfl rfl
    exact leafP (((x1.trans x2).trans x3).trans x4) (here' (s := { s2 with heap := (s2.heap.push { cls := .type "slice", data := .fields #[.none, .int b u, .none] }).push (lstObj (slicePick items none (some b) none) 0) }) G4 (.ref _) ⟨rfl, q _ off⟩))

/-- tuples joined -/
theorem pe_addt {l r : Expr} {pos : Pos} {xs ys : List AV} (hl : PE X n nm sc L fa cd ρ H l (.tup xs)) (hr : PE X n nm sc L fa cd ρ H r (.tup ys)) (hx : xs ≠ []) (hy : ys ≠ []) (hz : xs.length + ys.length ≤ 1000) : PE X n nm sc L fa cd ρ H (.BinOp l .Add r pos) (.tup (xs ++ ys)) := fun A s ok G =>
  wpAny_BinOp (stepP (hl A s ok G) fun v s1 i1 G1 x1 => by
    refine stepP (hr A s1 ok G1) fun u s2 i2 G2 x2 => ?_
    have i1' := i1.mono x2.tup
    cases i1' with
    | @tup a o1 items n1 _ ho hc hd l1 =>
    cases i2 with
    | @tup b o2 items2 n2 _ ho2 hc2 hd2 l2 =>
    obtain ⟨cls, dd, data, sl⟩ := o1
    obtain ⟨cls2, dd2, data2, sl2⟩ := o2
    simp only at hc hd hc2 hd2
    subst hc hd hc2 hd2
    have z1 : items.size = xs.length := by have := l1.length; rwa [Array.length_toList] at this
    have z2 : items2.size = ys.length := by have := l2.length; rwa [Array.length_toList] at this
    have p1 : 0 < xs.length := List.length_pos_iff.mpr hx
    have p2 : 0 < ys.length := List.length_pos_iff.mpr hy
    refine concat_meets ⟨_, ho, rfl⟩ ⟨_, ho2, rfl⟩ noFill_tuple_add seq_tuple_add PySem.F.slot_tuple_add PySem.F.entry_tuple_add (PySem.F.args_tuple_add_2 _ _)
        (tuple_addW2 a b items items2 n1 n2 dd dd2 sl sl2 (fun q => by rw [Array.isEmpty_iff_size_eq_zero] at q; omega) (fun q => by rw [Array.isEmpty_iff_size_eq_zero] at q; omega) (by rw [sizeLine_eq]; omega)) ⟨ho, ho2, ?_⟩
    have k2 : ∀ c o, s2.heap.get? c = some o → (s2.heap.push { cls := .type "tuple", data := .seq (items ++ items2) }).get? c = some o := fun b o e => Heap.get?_push_of_some _ e
    exact leafP (x1.trans x2) (done (s' := { s2 with heap := s2.heap.push { cls := .type "tuple", data := .seq (items ++ items2) } }) G2 k2 rfl rfl (.tup (Heap.get?_push_size _ rfl) rfl rfl (by rw [Array.toList_append]; exact (l1.grow k2).append (l2.grow k2))) ⟨rfl, rfl, rfl⟩))

theorem pt_chain2 {l r1 r2 : Expr} {op1 op2 : CmpOp} {pos : Pos} {a b c : AV} {t u : Bool} (hl : PE X (n + 1) nm sc L fa cd ρ H l a) (h1 : PE X (n + 1) nm sc L fa cd ρ H r1 b) (h2 : PE X (n + 1) nm sc L fa cd ρ H r2 c) (c1 : ACm X H op1 a b t) (c2 : ACm X H op2 b c u)
    (hm : lastMarks (op1 :: op2 :: []) (r1 :: r2 :: []) = false := by with_unfolding_all rfl) : PT X (n + 1) nm sc L fa cd ρ H (.Compare l [op1, op2] [r1, r2] pos) (t && u) := fun A s ok G =>
  isTrue_chain (hm := hm) (stepP (hl A s ok G) fun v s1 i1 G1 x1 => by
    refine test_link (stepP (h1 A s1 ok G1) fun v1 s2 i2 G2 x2 => ?_)
    refine stepP (acm_sound c1 ok G2 (i1.mono x2.tup) i2) fun z s3 i3 G3 x3 => ?_
    first | apply i3.ref_elim | apply i3.bool_elim | apply i3.ty_elim | apply i3.bi_elim | cases i3
    refine wpAny_truthy_bool ?_
    cases t with
    | false => exact leafP ((x1.trans x2).trans x3) (here' (R := fun _ a b => a = b) G3 rfl ⟨rfl, rfl, rfl⟩)
    | true =>
      refine test_last (stepP (h2 A s3 ok G3) fun v2 s4 i4 G4 x4 => ?_)
      refine stepP (acm_sound c2 ok G4 ((i2.mono x3.tup).mono x4.tup) i4) fun z s5 i5 G5 x5 => ?_
      cases i5
      exact wpAny_truthy_bool (leafP ((((x1.trans x2).trans x3).trans x4).trans x5) (here' (R := fun _ a b => a = b) G5 rfl ⟨rfl, rfl, rfl⟩)))
end

-- TFn
section
variable {prog : Program} {w : World} {X : Cx prog w}
variable {nm : Str} {sc : Scope} {L fa : Addr} {cd : Value} {n : Nat} {ρ : List (Str × AV)} {H : HM}

/-- a def's call; the arguments left out have their defaults -/
theorem cl_defB {f : Addr} {name qual : Str} {params : Arguments} {body : List Stmt} {scope : Scope} {dV kV doc pm cdv ct : Value} {an : Option Addr} {names : List Str} {as das : List AV} {dvs : List Value} {Q : AV → HM → Prop}
    (F : FnAt X f (fnOf name qual params body scope dV kV doc pm an cdv ct)) (hdv : ∀ h, IsL h dvs das)
    (hbind : ∀ (s : Shared) (vs : List Value), (∀ b o, X.h₀.get? b = some o → s.heap.get? b = some o) → vs.length = as.length → BindsTo s (fnOf name qual params body scope dV kV doc pm an cdv ct) ⟨vs, []⟩ (names.zip (vs ++ dvs)))
    (hloc : ∀ y ∈ names, scope.names.lookup y = some .local) (hcell : ∀ x ∈ scope.names, x.2 ≠ .cell)
    (h : ∀ L, EXS X n qual scope L f cdv (names.zip (as ++ das)).reverse H body fun fl _ H' => match fl with | .ret a => Q a H' | _ => Q .none H')
    (hco : scope.isCoroutine = false := by rfl) (hgen : scope.isGenerator = false := by rfl) (hk : scope.kind = .function := by rfl) : CL X (n + 2) (.ref f) as H Q := fun A s vs ok G il => by
  obtain ⟨o, ho, hd⟩ := F.ob
  refine wpAny_call (codeAny_call_def (fd := fnOf name qual params body scope dV kV doc pm an cdv ct) (body := body) (binds := names.zip (vs ++ dvs)) (by show A.depth < recursionLimit; have := ok.dp; show A.depth < 1000; omega)
    (G.keep _ _ ho) hd (X.nolim.keeps G.keep) (F.code.keeps G.keep) rfl (hbind s vs G.keep il.length) hcell (fun y hy => hloc y.1 (List.of_mem_zip hy).1) (fun h₁ hns hk₁ => ?_) hco hgen hk)
  have fresh : s.heap.get? s.heap.objs.size = none := by
    cases q : s.heap.get? s.heap.objs.size with
    | none => rfl
    | some o => exact absurd (Heap.lt_size q) (Nat.lt_irrefl _)
  have tk : TupKept s.heap h₁ := fun b o e _ => hk₁ b o e
  obtain ⟨g, x⟩ := G.add (s' := { s with heap := h₁, toks := s.toks + (names.zip (vs ++ dvs)).length }) (a := s.heap.objs.size) (ao := .ns (names.zip (as ++ das)).reverse) hk₁ fresh ⟨_, hns, mapis_zip ((il.mono tk).append (hdv _)) names⟩ rfl rfl
  have off : H s.heap.objs.size = none := by
    cases q : H s.heap.objs.size with
    | none => rfl
    | some ao => obtain ⟨o, e, _⟩ := (G.ob _ _ q).1.there; rw [fresh] at e; cases e
  refine wpAny_mono (h s.heap.objs.size (A.deeper _) _ (AOk.deeper ok _) ⟨off, g⟩) (fun fl s' pq0 => ?_) fun _ _ e => e.elim
  obtain ⟨af, ρ', H', i, g', x', q⟩ := pq0
  have gg := g'.glob
  have xx : Ext H s H' s' := by
    have y := x.trans x'
    refine ⟨y.kept, y.tup, fun a na nb => ?_, y.os, y.there⟩
    by_cases ne : a = s.heap.objs.size
    · subst ne; exact fresh
    · exact y.dom a (by rw [HM.put_ne _ _ ne]; exact na) nb
  cases i with
  | next => exact ⟨_, _, .none, gg, xx, q⟩
  | brk => exact ⟨_, _, .none, gg, xx, q⟩
  | cont => exact ⟨_, _, .none, gg, xx, q⟩
  | ret i => exact ⟨_, _, i, gg, xx, q⟩
end

noncomputable abbrev PW := pw_sj0182_01
section
variable {w : World} {X : Cx PW w}
structure IsK (X : Cx PW w) : Prop where
  k : X.K = hd.heap_39 w.params
  bi : ∀ x : Str, x ≠ "__name__" → X.mb x = bootBuiltins x
theorem fn_of (hK : IsK X) {f : Addr} {o : Obj} {fd : FuncData} (e : (hd.heap_39 w.params).lookup f = some o) (ho : o.data = .func fd) (hc : codeIn (hd.heap_39 w.params) fd.code fd.qualname = true) : FnAt X f fd :=
  ⟨⟨o, X.KIn f o (by rw [hK.k]; exact e), ho⟩, codeRec_of X.KIn (by rw [hK.k]; exact hc)⟩
theorem mgv (hK : IsK X) {x : Str} {v : Value} (e : nsIn (hd.heap_39 w.params) mainGlobals x = some (some v)) : X.mg x = some v := mg_of X.KIn X.g (by rw [hK.k]; exact e)
theorem mgn (hK : IsK X) {x : Str} (e : nsIn (hd.heap_39 w.params) mainGlobals x = some none) : X.mg x = none := mg_none_of X.KIn X.g (by rw [hK.k]; exact e)


theorem bi_at (hK : IsK X) {x : Str} {v : Value} (h : x ≠ "__name__") (e : bootBuiltins x = some v) : X.mb x = some v := (hK.bi x h).trans e
theorem ge0 {n : Nat} : (0 : Int) ≤ (n : Int) := Int.natCast_nonneg _
theorem mgi (hK : IsK X) {x : Str} {i : Int} {t : Tok} (e : nsIn (hd.heap_39 w.params) mainGlobals x = some (some (.int i t))) {nm : Str} {sc : Scope} {L fa : Addr} {cd : Value} {n : Nat} {ρ : List (Str × AV)} {H : HM} {pos : Pos} (hk : sc.kind = .function := by rfl)
    (hx : (envOf nm sc L fa cd).kindOf x = some .globalImplicit := by rfl) (hd : (x == ("__debug__" : Str)) = false := by decide) : PE X n nm sc L fa cd ρ H (.Name x pos) (.int i) := pe_global (mgv hK e) (fun _ _ => .int _ _) hk hx hd
theorem mgr (hK : IsK X) {x : Str} {f : Addr} (e : nsIn (hd.heap_39 w.params) mainGlobals x = some (some (.ref f))) {nm : Str} {sc : Scope} {L fa : Addr} {cd : Value} {n : Nat} {ρ : List (Str × AV)} {H : HM} {pos : Pos} (hk : sc.kind = .function := by rfl)
    (hx : (envOf nm sc L fa cd).kindOf x = some .globalImplicit := by rfl) (hd : (x == ("__debug__" : Str)) = false := by decide) : PE X n nm sc L fa cd ρ H (.Name x pos) (.ref f) := pe_global (mgv hK e) (fun _ _ => .ref _) hk hx hd

theorem acm_neB {H : HM} {a b : Bool} : ACm X H .NotEq (.bool a) (.bool b) (a != b) := by
  have := ACm.neD (X := X) (H := H) (a := .bool a) (b := .bool b) rfl rfl rfl rfl
  cases a <;> cases b <;> exact this
section
variable {nm : Str} {sc : Scope} {L fa : Addr} {cd : Value} {n : Nat} {ρ : List (Str × AV)} {H : HM}
theorem pe_neg {e : Expr} {p : Pos} {i : Int} (h : PE X n nm sc L fa cd ρ H e (.int i)) : PE X n nm sc L fa cd ρ H (.UnaryOp .USub e p) (.int (-i)) := fun A s ok G =>
  UnaryOp_ (stepP (h A s ok G) fun v s1 i1 G1 x1 => by
    obtain ⟨t, rfl⟩ := i1.int_inv
    exact PyProof.Rows.neg_int (leafP x1 (here G1 (.int _ _) ⟨rfl, rfl, rfl⟩)))
theorem pe_ifi {t b o : Expr} {pos : Pos} {c : Bool} {x y : Int} (h : PT X n nm sc L fa cd ρ H t c) (hb : PE X n nm sc L fa cd ρ H b (.int x)) (ho : PE X n nm sc L fa cd ρ H o (.int y)) : PE X n nm sc L fa cd ρ H (.IfExp t b o pos) (.int (if c then x else y)) :=
  pe_ifexp h (fun e => by subst e; exact hb) fun e => by subst e; exact ho
end
end

-- TIdx
theorem eqb_str {prog : Program} {w : World} {A : Around} {s : Shared} {a b : Str} {t u : Tok} {Q : Bool → Shared → Prop} {E : Value → Shared → Prop} (h : Q (a == b) s) : wpAny (model prog w) A (eqBool (.str a t) (.str b u)) Q E s := (eqGives_str a b t u).at A s prog w E Q h
theorem call_tindex {prog : Program} {w : World} {A : Around} {s : Shared} {a : Addr} {x : Str} {u : Tok} {Q : Value → Shared → Prop} {E : Value → Shared → Prop} {ss : List (Str × Tok)} (hT : IsTup s.heap a (ss.map fun p => Value.str p.1 p.2).toArray) {j : Nat} (hlt : j < ss.length)
   (hj : (ss.map (·.1))[j]? = some x) (hno : ∀ m, m < j → (ss.map (·.1))[m]? ≠ some x) (h : ∀ tk t, Q (.int j t) { s with toks := tk }) : wpAny (model prog w) A (call (.builtin "tuple.index") [.ref a, .str x u]) Q E s := by
  refine wpAny_call_entry F.slot_tuple_index hT.typeIs F.entry_tuple_index ?_ (F.args_tuple_index_2 _ _)
  unfold Builtin.«tuple.index»
  refine wpAny_bind (wpAny_pure (a := (Value.ref a, [Value.str x u])) ?_)
  refine wpAny_bind (tupleItemsOf_ hT ?_)
  dsimp only
  refine wpAny_bind (wpAny_pure ?_)
  refine wpAny_bind (wpAny_pure ?_)
  rw [Nat.min_self, Std.Legacy.Range.forIn_eq_forIn_range']
  simp only [Std.Legacy.Range.size, Nat.sub_zero, Nat.add_sub_cancel, Nat.div_one]
  refine wpAny_bind (wpAny_forIn_list _ (fun rest b s' => s' = s ∧ b = (none, ()) ∧ ∃ i, i ≤ j ∧ rest = List.range' i (ss.length - i)) _ ?_ ?_ _ _ ⟨rfl, rfl, 0, Nat.zero_le _, by simp⟩)
  · rintro k rest b s' ⟨rfl, rfl, i, hij, hr⟩
    have hi : i < ss.length := by omega
    have e : ss.length - i = (ss.length - (i + 1)) + 1 := by omega
    rw [e, List.range'_succ] at hr
    obtain ⟨e1, e2⟩ := List.cons.inj hr
    subst e2
    obtain rfl := e1.symm
    have hget : (ss.map fun p => Value.str p.1 p.2).toArray[i]? = some (.str ss[i].1 ss[i].2) := by simp [hi]
    simp only [hget]
    have hm : (ss.map (·.1))[i]? = some ss[i].1 := by simp [hi]
    refine wpAny_bind (eqb_str ?_)
    by_cases q : ss[i].1 = x
    · have hji : i = j := by
        rcases Nat.lt_or_ge i j with h1 | h1
        · exact absurd (by rw [hm, q]) (hno i h1)
        · omega
      subst hji
      rw [beq_iff_eq.mpr q, if_pos rfl]
      refine wpAny_bind (wpAny_bind (m := mkInt _) (wpAny_mkInt (wpAny_pure (wpAny_pure ?_))))
      exact wpAny_pure ⟨_, rfl, h _ _⟩
    · have hji : i ≠ j := fun e2 => by subst e2; rw [hm] at hj; exact q (Option.some.inj hj)
      rw [beq_eq_false_iff_ne.mpr q, if_neg Bool.false_ne_true]
      refine wpAny_pure ⟨rfl, rfl, i + 1, by omega, ?_⟩
      simp
  · rintro b s' ⟨rfl, rfl, i, hij, hr⟩
    exfalso
    have : (List.range' i (ss.length - i)).length = 0 := by rw [← hr]; rfl
    rw [List.length_range'] at this
    omega

-- TPure
section
variable {w : World} {X : Cx PW w}

theorem len1 {vs : List Value} (h : vs.length = 1) : ∃ a, vs = [a] := by
  rcases vs with _ | ⟨a, _ | ⟨b, _⟩⟩ <;> simp at h
  exact ⟨a, rfl⟩
theorem len2 {vs : List Value} (h : vs.length = 2) : ∃ a b, vs = [a, b] := by
  rcases vs with _ | ⟨a, _ | ⟨b, _ | ⟨c, _⟩⟩⟩ <;> simp at h
  exact ⟨a, b, rfl⟩
theorem len3 {vs : List Value} (h : vs.length = 3) : ∃ a b c, vs = [a, b, c] := by
  rcases vs with _ | ⟨a, _ | ⟨b, _ | ⟨c, _ | ⟨d, _⟩⟩⟩⟩ <;> simp at h
  exact ⟨a, b, c, rfl⟩
theorem len4 {vs : List Value} (h : vs.length = 4) : ∃ a b c d, vs = [a, b, c, d] := by
  rcases vs with _ | ⟨a, _ | ⟨b, _ | ⟨c, _ | ⟨d, _ | ⟨e, _⟩⟩⟩⟩⟩ <;> simp at h
  exact ⟨a, b, c, d, rfl⟩
section
variable {nm : Str} {sc : Scope} {L fa : Addr} {cd : Value} {n : Nat} {ρ : List (Str × AV)} {H : HM}
/-- what is to do behind a statement -/
noncomputable def Cont (X : Cx PW w) (n : Nat) (nm : Str) (sc : Scope) (L fa : Addr) (cd : Value) (rest : List Stmt) (Q : AF → List (Str × AV) → HM → Prop) (f : AF) (ρ : List (Str × AV)) (H : HM) : Prop := match f with
  | .next => EXS X n nm sc L fa cd ρ H rest Q
  | f => Q f ρ H
theorem exs_c {st : Stmt} {rest : List Stmt} {Q : AF → List (Str × AV) → HM → Prop} (h : EX X n nm sc L fa cd ρ H st (Cont X n nm sc L fa cd rest Q)) : EXS X n nm sc L fa cd ρ H (st :: rest) Q :=
  exs_cons (h.mono fun f ρ' H' q => by cases f <;> exact q)
theorem cont_next {rest : List Stmt} {Q : AF → List (Str × AV) → HM → Prop} (h : EXS X n nm sc L fa cd ρ H rest Q) : Cont X n nm sc L fa cd rest Q .next ρ H := h
theorem cont_ret {rest : List Stmt} {Q : AF → List (Str × AV) → HM → Prop} {a : AV} (h : Q (.ret a) ρ H) : Cont X n nm sc L fa cd rest Q (.ret a) ρ H := h
theorem exs_ret {e : Expr} {pos : Pos} {rest : List Stmt} {a : AV} {Q : AF → List (Str × AV) → HM → Prop} (h : PE X (n + 1) nm sc L fa cd ρ H e a) (q : Q (.ret a) ρ H) : EXS X n nm sc L fa cd ρ H (.Return (some e) pos :: rest) Q :=
  exs_c (ex_return (EV.of_PE h q))
theorem exs_retE {e : Expr} {pos : Pos} {rest : List Stmt} {Q : AF → List (Str × AV) → HM → Prop} (h : EV X (n + 1) nm sc L fa cd ρ H e fun a H' => Q (.ret a) ρ H') : EXS X n nm sc L fa cd ρ H (.Return (some e) pos :: rest) Q :=
  exs_c (ex_return h)
/-- an if without an else -/
theorem exs_if0 {t : Expr} {b rest : List Stmt} {pos : Pos} {c : Bool} {Q : AF → List (Str × AV) → HM → Prop} (h : PT X (n + 1) nm sc L fa cd ρ H t c) (hb : c = true → EXS X n nm sc L fa cd ρ H b (Cont X n nm sc L fa cd rest Q)) (ho : c = false → EXS X n nm sc L fa cd ρ H rest Q) :
    EXS X n nm sc L fa cd ρ H (.If t b [] pos :: rest) Q := exs_c (ex_ifp h hb fun e => exs_nil (ho e))
theorem exs_if1 {t : Expr} {b o rest : List Stmt} {pos : Pos} {c : Bool} {Q : AF → List (Str × AV) → HM → Prop} (h : PT X (n + 1) nm sc L fa cd ρ H t c) (hb : c = true → EXS X n nm sc L fa cd ρ H b (Cont X n nm sc L fa cd rest Q)) (ho : c = false → EXS X n nm sc L fa cd ρ H o (Cont X n nm sc L fa cd rest Q)) :
    EXS X n nm sc L fa cd ρ H (.If t b o pos :: rest) Q := exs_c (ex_ifp h hb ho)
/-- a name set -/
theorem exs_nm {x : Str} {p pos : Pos} {e : Expr} {rest : List Stmt} {a : AV} {Q : AF → List (Str × AV) → HM → Prop} (h : PE X (n + 1) nm sc L fa cd ρ H e a) (q : EXS X n nm sc L fa cd ((x, a) :: ρ) H rest Q)
    (hs : swapsWith e (some (.Name x p)) pos.line (envOf nm sc L fa cd) = pure false := by rfl) (hl : (envOf nm sc L fa cd).kindOf x = some .local := by rfl) (hk : sc.kind = .function := by rfl) : EXS X n nm sc L fa cd ρ H (.Assign [.Name x p] e pos :: rest) Q :=
  exs_c (ex_name (EV.of_PE h q) hs hl hk)
theorem exs_nmE {x : Str} {p pos : Pos} {e : Expr} {rest : List Stmt} {Q : AF → List (Str × AV) → HM → Prop} (h : EV X (n + 1) nm sc L fa cd ρ H e fun a H' => EXS X n nm sc L fa cd ((x, a) :: ρ) H' rest Q)
    (hs : swapsWith e (some (.Name x p)) pos.line (envOf nm sc L fa cd) = pure false := by rfl) (hl : (envOf nm sc L fa cd).kindOf x = some .local := by rfl) (hk : sc.kind = .function := by rfl) : EXS X n nm sc L fa cd ρ H (.Assign [.Name x p] e pos :: rest) Q :=
  exs_c (ex_name h hs hl hk)
theorem exs_as {t e : Expr} {pos : Pos} {a : AV} {rest : List Stmt} {Q : AF → List (Str × AV) → HM → Prop} (h : PE X (n + 1) nm sc L fa cd ρ H e a) (q : TG X n nm sc L fa cd ρ H t a fun ρ' H' => EXS X n nm sc L fa cd ρ' H' rest Q)
    (hs : swapsWithSole [t] e pos.line (envOf nm sc L fa cd) = pure false := by rfl) (hw : swappedStores [t] e (envOf nm sc L fa cd) = pure none := by rfl)
    (ha : (assignEach [t] (envOf nm sc L fa cd)).map (·.2) = [assign t (envOf nm sc L fa cd)] := by rfl) : EXS X n nm sc L fa cd ρ H (.Assign [t] e pos :: rest) Q := exs_c (ex_assign (EV.of_PE h q) hs hw ha)
theorem exs_ex {e : Expr} {pos : Pos} {rest : List Stmt} {Q : AF → List (Str × AV) → HM → Prop} (h : EV X (n + 1) nm sc L fa cd ρ H e fun _ H' => EXS X n nm sc L fa cd ρ H' rest Q) (hi : interactive (envOf nm sc L fa cd) = false := by rfl)
    (hs : swapsWith e none pos.line (envOf nm sc L fa cd) = pure false := by rfl) : EXS X n nm sc L fa cd ρ H (.Expr e pos :: rest) Q := exs_c (ex_expr h hi hs)
theorem exs_0 {Q : AF → List (Str × AV) → HM → Prop} (q : Q .next ρ H) : EXS X n nm sc L fa cd ρ H [] Q := exs_nil q
end
theorem mul_10 {b : Int} : IntMulOk 10 b := IntMulOk.of_left (by decide +kernel)
theorem mul_7 {b : Int} : IntMulOk 7 b := IntMulOk.of_left (by decide +kernel)
theorem div_4 {a : Int} : Builtin.divisionGoesByPylong a 4 = false := by
  have h : ((if (4 : Int) == 0 then 0 else (4 : Int).natAbs.log2 / 30 + 1 : Nat) > 300) = False := by decide +kernel
  unfold Builtin.divisionGoesByPylong
  simp only [h, decide_false, Bool.false_and]
section
variable {nm : Str} {sc : Scope} {L fa : Addr} {cd : Value} {n : Nat} {ρ : List (Str × AV)} {H : HM}
theorem pe_tup_1 {value lo : Expr} {p pos : Pos} {xs : List AV} (hv : PE X n nm sc L fa cd ρ H value (.tup xs)) (hlo : PE X n nm sc L fa cd ρ H lo (.int 1)) (ha : 1 ≤ xs.length) (hz : xs.length ≤ 1000) :
    PE X n nm sc L fa cd ρ H (.Subscript value (.Slice (some lo) none none p) pos) (.tup (xs.drop 1)) := pe_tup_from (a := 1) hv hlo (Nat.le_refl _) ha hz
theorem pe_tup_25 {value lo hi : Expr} {p pos : Pos} {xs : List AV} (hv : PE X n nm sc L fa cd ρ H value (.tup xs)) (hlo : PE X n nm sc L fa cd ρ H lo (.int 2)) (hhi : PE X n nm sc L fa cd ρ H hi (.int 5)) (ha : 5 ≤ xs.length) (hz : xs.length ≤ 1000) :
    PE X n nm sc L fa cd ρ H (.Subscript value (.Slice (some lo) (some hi) none p) pos) (.tup ((xs.drop 2).take 3)) := pe_tup_run (a := 2) (b := 5) hv hlo hhi (by decide) (by decide) ha hz
noncomputable abbrev keysV : AV := .tup [.tup [.int 1, .int 7, .int 1], .tup [.int 1, .int 7, .int 2]]
theorem tupK (hK : IsK X) {a : Addr} {o : Obj} {items : Array Value} {n : Nat} {xs : List AV} (e : (hd.heap_39 w.params).lookup a = some o) (hc : o.cls = .type "tuple") (hd : o.data = .seq items n)
    {h : Heap} (k : ∀ b o, X.h₀.get? b = some o → h.get? b = some o) (l : IsL h items.toList xs) : Is h (.ref a) (.tup xs) := .tup (k _ _ (X.KIn a o (by rw [hK.k]; exact e))) hc hd l
theorem is_keys (hK : IsK X) (h : Heap) (k : ∀ b o, X.h₀.get? b = some o → h.get? b = some o) : Is h (.ref 280) keysV := by
  refine tupK hK (a := 280) rfl rfl rfl k (.cons (tupK hK (a := 278) rfl rfl rfl k ?_) (.cons (tupK hK (a := 279) rfl rfl rfl k ?_) .nil))
  · exact .cons (.int _ _) (.cons (.int _ _) (.cons (.int _ _) .nil))
  · exact .cons (.int _ _) (.cons (.int _ _) (.cons (.int _ _) .nil))
theorem pe_keys (hK : IsK X) {x : Str} {pos : Pos} (e : nsIn (hd.heap_39 w.params) mainGlobals x = some (some (.ref 280))) (hk : sc.kind = .function := by rfl)
    (hx : (envOf nm sc L fa cd).kindOf x = some .globalImplicit := by rfl) (hd : (x == ("__debug__" : Str)) = false := by decide) : PE X n nm sc L fa cd ρ H (.Name x pos) keysV := pe_global (mgv hK e) (is_keys hK) hk hx hd
end
end

-- TPure2
section
variable {w : World} {X : Cx PW w}

section
variable {nm : Str} {sc : Scope} {L fa : Addr} {cd : Value} {n : Nat} {ρ : List (Str × AV)} {H : HM}
theorem pe_ifa {t b o : Expr} {pos : Pos} {c : Bool} {x y : AV} (h : PT X n nm sc L fa cd ρ H t c) (hb : PE X n nm sc L fa cd ρ H b x) (ho : PE X n nm sc L fa cd ρ H o y) : PE X n nm sc L fa cd ρ H (.IfExp t b o pos) (if c then x else y) :=
  pe_ifexp h (fun e => by subst e; exact hb) fun e => by subst e; exact ho
theorem pe_andb {e e' : Expr} {pos : Pos} {c d : Bool} (h : PE X n nm sc L fa cd ρ H e (.bool c)) (h' : PE X n nm sc L fa cd ρ H e' (.bool d)) : PE X n nm sc L fa cd ρ H (.BoolOp .And [e, e'] pos) (.bool (c && d)) :=
  pe_and h (.bool c) (fun e => by subst e; rfl) fun e => by subst e; exact pe_bool1 h'
end
end

set_option genInjectivity false
-- TDb
section
variable {w : World} {X : Cx PW w}

/-- an object of the class, with its dict of rows -/
noncomputable def DbAt (X : Cx PW w) (x rw : Addr) : Prop := ∃ sl dx hh t k, X.S x = some (.raw ⟨.ref 167, some dx, .plain, sl⟩) ∧ X.S dx = some (.raw (dictOf [⟨hh, .str "rows" t, .ref rw⟩] k))
section
variable {nm : Str} {sc : Scope} {L fa : Addr} {cd : Value} {n : Nat} {ρ : List (Str × AV)} {H : HM}
theorem DbAt.inst {x rw : Addr} (D : DbAt X x rw) : ∃ ox hh t k, ∀ {L : Addr} {ρ : List (Str × AV)} {H : HM} {s : Shared}, GL X L ρ H s → InstAt s.heap x ox 167 (some (dictOf [⟨hh, .str "rows" t, .ref rw⟩] k)) := by
  obtain ⟨sl, dx, hh, t, k, h1, h2⟩ := D
  refine ⟨⟨.ref 167, some dx, .plain, sl⟩, hh, t, k, fun G => ?_⟩
  have a := (G.sobj h1).1
  have b := (G.sobj h2).1
  exact ⟨a, rfl, rfl, b⟩
theorem pe_rows (hK : IsK X) {o : Expr} {pos : Pos} {x rw : Addr} (ho : PE X n nm sc L fa cd ρ H o (.ref x)) (D : DbAt X x rw)
    (he : eval (.Attribute o "rows" pos) (envOf nm sc L fa cd) = (do
      let v ← eval o (envOf nm sc L fa cd)
      standAt pos.atName
      let r ← holding [v] (getAttr v "rows" true)
      letTemporaryGo o v r
      pure r) := by rfl) : PE X n nm sc L fa cd ρ H (.Attribute o "rows" pos) (.ref rw) := fun A s ok G =>
  Attribute_any_ (he := he) (stepP (ho A s ok G) fun v s1 i1 G1 x1 => by
    first | apply i1.ref_elim | apply i1.bool_elim | apply i1.ty_elim | apply i1.bi_elim | cases i1
    obtain ⟨ox, hh, t, k, I⟩ := D.inst
    have Kin : (hd.heap_39 w.params).In s1.heap := fun b o e => G1.keep b o (X.KIn b o (by rw [hK.k]; exact e))
    refine get_value (od := some (dictOf [⟨hh, .str "rows" t, .ref rw⟩] k)) Kin (I G1) (by rfl) (v := .ref rw) (by rfl) rfl ?_
    exact leafP x1 (here G1 (.ref _) ⟨rfl, rfl, rfl⟩))
theorem ev_db (hK : IsK X) {o : Expr} {name : Str} {apos pos : Pos} {args : List Expr} {x rw f : Addr} {fd : FuncData} {as : List AV} {Q : AV → HM → Prop} (ho : PE X n nm sc L fa cd ρ H o (.ref x)) (D : DbAt X x rw) (ha : PEs X n nm sc L fa cd ρ H args as)
    (F : FnAt X f fd) (hf : findIn (hd.heap_39 w.params) (.ref 167) name = some (some (.ref f))) (ht : typeIn (hd.heap_39 w.params) (.ref f) = some (.type "function")) (hne : ("rows" : Str) ≠ name) (hc : CL X n (.ref f) (.ref x :: as) H Q)
    (hne2 : args ≠ [] := by simp)
    (he : ∃ pl, eval (.Call (.Attribute o name apos) args [] pos) (envOf nm sc L fa cd) = (do
      let ov ← eval o (envOf nm sc L fa cd)
      standAt apos.atName
      let (f, first) ← holding [ov] (getMethod ov name pl)
      callWith pos f first (backTo pos (starEach args (envOf nm sc L fa cd))) []) := by exact ⟨_, rfl⟩) : EV X n nm sc L fa cd ρ H (.Call (.Attribute o name apos) args [] pos) Q := fun A s ok G => by
  obtain ⟨pl, he⟩ := he
  refine MethodCall_ (he := he) (stepP (ho A s ok G) fun v s1 i1 G1 x1 => ?_)
  first | apply i1.ref_elim | apply i1.bool_elim | apply i1.ty_elim | apply i1.bi_elim | cases i1
  obtain ⟨ox, hh, t, k, I⟩ := D.inst
  have Kin : (hd.heap_39 w.params).In s1.heap := fun b o e => G1.keep b o (X.KIn b o (by rw [hK.k]; exact e))
  have hs : shadowIn (some (dictOf [⟨hh, .str "rows" t, .ref rw⟩] k)) name = some false := by
    have e : (Value.str ("rows" : Str) t).isStr name = false := by simpa [Value.isStr] using hne
    simp [shadowIn, lookIn, dictOf, e, DictEntry.refKey]
  refine method_fn Kin (I G1) (by rfl) (by rfl) hf ht hs ?_
  obtain ⟨of, hof, hdf⟩ := F.ob
  cases ha with
  | nil => exact absurd rfl hne2
  | cons h hst r =>
    dsimp only
    have sp := spliced_sound (pos := pos) (.cons h hst r) ok G1
    rw [hst] at sp ⊢
    refine callWith_function (o := of) (fd := fd) (evalArgs_plain ?_)
    refine stepP sp fun vs s2 i2 G2 x2 => ?_
    exact ⟨⟨G2.keep _ _ hof, hdf⟩, leaf (x1.trans x2) (call_back hc ok G2 (.cons (.ref _) i2))⟩
end
end

-- TDb2
section
variable {w : World} {X : Cx PW w}

section
variable {nm : Str} {sc : Scope} {L fa : Addr} {cd : Value} {n : Nat} {ρ : List (Str × AV)} {H : HM}
theorem asub_td3 {d : Addr} {m : List (List Int × AV)} {i j l : Int} {r : AV} (ha : At X H d (.td m)) (h : lookA m [i, j, l] = some r) : ASub X H (.ref d) (.tup [.int i, .int j, .int l]) r := .td (k := [i, j, l]) ha h
theorem asub_td2 {d : Addr} {m : List (List Int × AV)} {i j : Int} {r : AV} (ha : At X H d (.td m)) (h : lookA m [i, j] = some r) : ASub X H (.ref d) (.tup [.int i, .int j]) r := .td (k := [i, j]) ha h
theorem acm_in3 {d : Addr} {m : List (List Int × AV)} {i j l : Int} (h : H d = some (.td m)) : ACm X H .In (.tup [.int i, .int j, .int l]) (.ref d) (lookA m [i, j, l]).isSome := .inTd (k := [i, j, l]) h
theorem acm_nin3 {d : Addr} {m : List (List Int × AV)} {i j l : Int} (h : H d = some (.td m)) : ACm X H .NotIn (.tup [.int i, .int j, .int l]) (.ref d) (!(lookA m [i, j, l]).isSome) := .ninTd (k := [i, j, l]) h
theorem set_td3 {d : Addr} {m : List (List Int × AV)} {i j l : Int} {v : AV} (h : H d = some (.td m)) (hz : m.length ≤ 1000) : SetIt H (.ref d) (.tup [.int i, .int j, .int l]) v (H.put d (.td (storeA m [i, j, l] v))) := .td (k := [i, j, l]) h hz
theorem set_td2 {d : Addr} {m : List (List Int × AV)} {i j : Int} {v : AV} (h : H d = some (.td m)) (hz : m.length ≤ 1000) : SetIt H (.ref d) (.tup [.int i, .int j]) v (H.put d (.td (storeA m [i, j] v))) := .td (k := [i, j]) h hz
theorem cl_dpop3 {d : Addr} {m : List (List Int × AV)} {i j l : Int} {dv : AV} (h : H d = some (.td m)) (hz : m.length ≤ 1000) : CL X (n + 1) (.builtin "dict.pop") [.ref d, .tup [.int i, .int j, .int l], dv] H fun b H' => H' = H.put d (.td (dropA m [i, j, l])) := cl_dpop (k := [i, j, l]) h hz
theorem cl_dpop13 {d : Addr} {m : List (List Int × AV)} {i j l : Int} {v : AV} (h : H d = some (.td m)) (hz : m.length ≤ 1000) (hv : lookA m [i, j, l] = some v) : CL X (n + 1) (.builtin "dict.pop") [.ref d, .tup [.int i, .int j, .int l]] H fun b H' => H' = H.put d (.td (dropA m [i, j, l])) := cl_dpop1 (k := [i, j, l]) h hz hv
theorem cl_dget3 {d : Addr} {m : List (List Int × AV)} {i j l : Int} (h : H d = some (.td m)) : PC X (n + 1) (.builtin "dict.get") [.ref d, .tup [.int i, .int j, .int l]] H ((lookA m [i, j, l]).getD .none) := cl_dget (k := [i, j, l]) h
end
end

-- TFl
section
variable {w : World} {X : Cx PW w}

section
variable {nm : Str} {sc : Scope} {L fa : Addr} {cd : Value} {n : Nat} {ρ : List (Str × AV)} {H : HM}
theorem pe_and_f {e e' : Expr} {pos : Pos} (h : PE X n nm sc L fa cd ρ H e (.bool false)) : PE X n nm sc L fa cd ρ H (.BoolOp .And [e, e'] pos) (.bool false) := pe_and h (.bool false) (fun _ => rfl) fun e => by cases e
theorem pe_if_f {t b o : Expr} {pos : Pos} {x : AV} (h : PT X n nm sc L fa cd ρ H t false) (ho : PE X n nm sc L fa cd ρ H o x) : PE X n nm sc L fa cd ρ H (.IfExp t b o pos) x := pe_ifexp h (fun e => by cases e) fun _ => ho
theorem pe_if_t {t b o : Expr} {pos : Pos} {x : AV} (h : PT X n nm sc L fa cd ρ H t true) (ho : PE X n nm sc L fa cd ρ H b x) : PE X n nm sc L fa cd ρ H (.IfExp t b o pos) x := pe_ifexp h (fun _ => ho) fun e => by cases e
theorem pt_not_t {e : Expr} {pos : Pos} (h : PT X n nm sc L fa cd ρ H e false) : PT X n nm sc L fa cd ρ H (.UnaryOp .Not e pos) true := pt_not h
theorem pt_not_f {e : Expr} {pos : Pos} (h : PT X n nm sc L fa cd ρ H e true) : PT X n nm sc L fa cd ρ H (.UnaryOp .Not e pos) false := pt_not h
end
end

section
variable {w : World} {X : Cx PW w}
section
variable {nm : Str} {sc : Scope} {L fa : Addr} {cd : Value} {n : Nat} {ρ : List (Str × AV)} {H : HM}
theorem pt_or_t {e : Expr} {rest : List Expr} {pos : Pos} (h : PT X n nm sc L fa cd ρ H e true) : PT X n nm sc L fa cd ρ H (.BoolOp .Or (e :: rest) pos) true := pt_or (d := true) h fun e => by cases e
theorem pt_and_f {e : Expr} {rest : List Expr} {pos : Pos} (h : PT X n nm sc L fa cd ρ H e false) : PT X n nm sc L fa cd ρ H (.BoolOp .And (e :: rest) pos) false := pt_and (d := false) h fun e => by cases e
end
end

-- TXa
section
variable {w : World} {X : Cx PW w}

section
variable {nm : Str} {sc : Scope} {L fa : Addr} {cd : Value} {n : Nat} {ρ : List (Str × AV)} {H : HM}
theorem ex_swapE {t e : Expr} {pos : Pos} {names : List Str} {Q : AF → List (Str × AV) → HM → Prop} (h : EV X (n + 1) nm sc L fa cd ρ H e fun a H' => ∃ as, a = .tup as ∧ names.length = as.length ∧ Q .next ((names.reverse.zip as.reverse).reverse ++ ρ) H')
    (hw : swappedStores [t] e (envOf nm sc L fa cd) = pure (some names) := by rfl) (hl : ∀ x ∈ names.reverse, (envOf nm sc L fa cd).kindOf x = some .local := by decide)
    (hs : swapsWithSole [t] e pos.line (envOf nm sc L fa cd) = pure false := by rfl) (hk : sc.kind = .function := by rfl)
    (ha : exec (.Assign [t] e pos) (envOf nm sc L fa cd) = (do standAt pos; if ← swapsWithSole [t] e pos.line (envOf nm sc L fa cd) then do { evalThenUse e (envOf nm sc L fa cd) fun v => assignAll v ((assignEach [t] (envOf nm sc L fa cd)).map (·.2)); pure .next } else do { let v ← eval e (envOf nm sc L fa cd); assignStores (envOf nm sc L fa cd) v (← swappedStores [t] e (envOf nm sc L fa cd)) ((assignEach [t] (envOf nm sc L fa cd)).map (·.2)) }) := by rfl) :
    EX X n nm sc L fa cd ρ H (.Assign [t] e pos) Q := fun A s ok G => by
  rw [ha, hs]
  refine wpAny_bind (wpAny_standAt (wpAny_bind (wpAny_pure ?_)))
  rw [if_neg Bool.false_ne_true]
  refine wpAny_bind (step (h A s ok G) fun v a ρ1 H1 s1 i G1 x1 pq0 => ?_)
  obtain ⟨e1, as, e2, hn, q⟩ := pq0
  subst e1 e2
  rw [hw]
  refine wpAny_bind (wpAny_pure ?_)
  cases i with
  | @tup _ _ items _ _ e c d l =>
    unfold assignStores
    dsimp only
    refine wpAny_bind (wpAny_rule (wpAny_bind ?_))
    have hz : names.length = items.size := by rw [hn, ← l.length, Array.length_toList]
    rw [hz]
    refine wpAny_unpackItems_tuple ok.hd ⟨_, e, c, _, d⟩ fun h' hx => ?_
    have k : ∀ b o, s1.heap.get? b = some o → h'.get? b = some o := fun b o e => hx b o (Nat.ne_of_lt (Heap.lt_size e)) e
    obtain ⟨G', x'⟩ := G1.grow (s' := { s1 with heap := h' }) k rfl rfl
    refine wpAny_bind (step (names_sound (l.mono x'.tup).reverse G' hl hk (by simp [hn, ← l.length])) fun _ _ ρ2 H2 s2 _ G2 x2 pq0 => ?_)
    obtain ⟨e1, e2⟩ := pq0
    subst e1 e2
    exact wpAny_pure (leafP ((x1.trans x').trans x2) (here' G2 .next q))
/-- «x, y = a, b» -/
theorem exs_sw2E {x y : Str} {p1 p2 p pos : Pos} {k : Nat} {e : Expr} {rest : List Stmt} {Q : AF → List (Str × AV) → HM → Prop} (h : EV X (n + 1) nm sc L fa cd ρ H e fun v H' => ∃ a b, v = .tup [a, b] ∧ EXS X n nm sc L fa cd ((x, a) :: (y, b) :: ρ) H' rest Q)
    (hw : swappedStores [.Tuple [.Name x p1, .Name y p2] k p] e (envOf nm sc L fa cd) = pure (some [x, y]) := by rfl) (hx : (envOf nm sc L fa cd).kindOf x = some .local := by rfl) (hy : (envOf nm sc L fa cd).kindOf y = some .local := by rfl)
    (hs : swapsWithSole [.Tuple [.Name x p1, .Name y p2] k p] e pos.line (envOf nm sc L fa cd) = pure false := by rfl) (hk : sc.kind = .function := by rfl)
    (ha : exec (.Assign [.Tuple [.Name x p1, .Name y p2] k p] e pos) (envOf nm sc L fa cd) = (do standAt pos; if ← swapsWithSole [.Tuple [.Name x p1, .Name y p2] k p] e pos.line (envOf nm sc L fa cd) then do { evalThenUse e (envOf nm sc L fa cd) fun v => assignAll v ((assignEach [.Tuple [.Name x p1, .Name y p2] k p] (envOf nm sc L fa cd)).map (·.2)); pure .next } else do { let v ← eval e (envOf nm sc L fa cd); assignStores (envOf nm sc L fa cd) v (← swappedStores [.Tuple [.Name x p1, .Name y p2] k p] e (envOf nm sc L fa cd)) ((assignEach [.Tuple [.Name x p1, .Name y p2] k p] (envOf nm sc L fa cd)).map (·.2)) }) := by rfl) :
    EXS X n nm sc L fa cd ρ H (.Assign [.Tuple [.Name x p1, .Name y p2] k p] e pos :: rest) Q :=
  exs_c (ex_swapE (names := [x, y]) (h.mono fun v H' ⟨a, b, e1, q⟩ => ⟨[a, b], e1, rfl, q⟩) hw (fun z hz => by
    have : z = y ∨ z = x := by simpa using hz
    rcases this with rfl | rfl
    · exact hy
    · exact hx) hs hk ha)
theorem exs_sw2 {x y : Str} {p1 p2 p pos : Pos} {k : Nat} {e : Expr} {a b : AV} {rest : List Stmt} {Q : AF → List (Str × AV) → HM → Prop} (h : PE X (n + 1) nm sc L fa cd ρ H e (.tup [a, b])) (q : EXS X n nm sc L fa cd ((x, a) :: (y, b) :: ρ) H rest Q)
    (hw : swappedStores [.Tuple [.Name x p1, .Name y p2] k p] e (envOf nm sc L fa cd) = pure (some [x, y]) := by rfl) (hx : (envOf nm sc L fa cd).kindOf x = some .local := by rfl) (hy : (envOf nm sc L fa cd).kindOf y = some .local := by rfl)
    (hs : swapsWithSole [.Tuple [.Name x p1, .Name y p2] k p] e pos.line (envOf nm sc L fa cd) = pure false := by rfl) (hk : sc.kind = .function := by rfl)
    (ha : exec (.Assign [.Tuple [.Name x p1, .Name y p2] k p] e pos) (envOf nm sc L fa cd) = (do standAt pos; if ← swapsWithSole [.Tuple [.Name x p1, .Name y p2] k p] e pos.line (envOf nm sc L fa cd) then do { evalThenUse e (envOf nm sc L fa cd) fun v => assignAll v ((assignEach [.Tuple [.Name x p1, .Name y p2] k p] (envOf nm sc L fa cd)).map (·.2)); pure .next } else do { let v ← eval e (envOf nm sc L fa cd); assignStores (envOf nm sc L fa cd) v (← swappedStores [.Tuple [.Name x p1, .Name y p2] k p] e (envOf nm sc L fa cd)) ((assignEach [.Tuple [.Name x p1, .Name y p2] k p] (envOf nm sc L fa cd)).map (·.2)) }) := by rfl) :
    EXS X n nm sc L fa cd ρ H (.Assign [.Tuple [.Name x p1, .Name y p2] k p] e pos :: rest) Q := exs_sw2E (EV.of_PE h ⟨a, b, rfl, q⟩) hw hx hy hs hk ha
end
theorem CL.shrink {f : Value} {args : List AV} {n : Nat} {H : HM} {Q : AV → HM → Prop} (h : CL X n f args H fun b H' => ∃ H'', (∀ a ao, H'' a = some ao → H' a = some ao) ∧ Q b H'') : CL X n f args H Q := fun A s vs ok G il =>
  wpAny_mono (h A s vs ok G il) (fun v s' ⟨b, H', i, g, x, H'', k, q⟩ => ⟨b, H'', i, g.less k, ⟨x.kept, x.tup, fun a na nb => x.dom a (by
    cases r : H'' a with
    | none => exact absurd r na
    | some o => rw [k a o r]; exact fun e => nomatch e) nb, x.os, x.there⟩, q⟩) fun _ _ e => e
theorem sub_put {H : HM} {t : Addr} {o : AO} (h : H t = none) : ∀ a ao, H a = some ao → (H.put t o) a = some ao := fun a ao e => by
  rw [HM.put_ne]; exact e
  intro q; rw [q, h] at e; cases e
end

-- the walk's own lines
local macro_rules | `(tactic| k_mem) => `(tactic| focus first
  | ((with_reducible show PE _ _ _ _ _ _ _ _ _ (.Constant _ _ _) _); first | exact pe_int | exact pe_str | exact pe_bool | exact pe_none)
  | ((with_reducible show PE _ _ _ _ _ _ _ _ _ (.Name _ _) _); first
      | (refine' pe_local (hk := ?k) (hl := ?l) (hd := ?d) ?a; (case l => exact rfl); (case k => exact rfl); (case d => decide); (case a => first | exact rfl | assumption))
      | (refine' mgi ?h ?a (hk := ?k) (hx := ?l) (hd := ?d); (case l => exact rfl); (case k => exact rfl); (case d => decide); (case h => assumption); (case a => exact rfl))
      | (refine' pe_keys ?h ?a (hk := ?k) (hx := ?l) (hd := ?d); (case l => exact rfl); (case k => exact rfl); (case d => decide); (case h => assumption); (case a => exact rfl)))
  | ((with_reducible show PE _ _ _ _ _ _ _ _ _ (.Subscript _ (.Slice _ _ _ _) _) _); first
      | (refine' pe_tup_1 ?a ?b ?c ?d; (case b => k_mem); (case a => k_mem); (case c => exact Nat.le_of_ble_eq_true rfl); (case d => exact Nat.le_of_ble_eq_true rfl))
      | (refine' pe_tup_25 ?a ?b ?c ?d ?e; (case b => k_mem); (case c => k_mem); (case a => k_mem); (case d => exact Nat.le_of_ble_eq_true rfl); (case e => exact Nat.le_of_ble_eq_true rfl)))
  | ((with_reducible show PE _ _ _ _ _ _ _ _ _ (.Subscript _ _ _) _); refine' pe_sub ?a ?b ?c; (case a => k_mem); (case b => k_mem); (case c => k_upd))
  | ((with_reducible show PE _ _ _ _ _ _ _ _ _ (.Attribute _ _ _) _); refine' pe_rows ?h ?a ?d; (case h => assumption); (case a => k_mem); (case d => assumption))
  | ((with_reducible show PE _ _ _ _ _ _ _ _ _ (.Tuple _ _ _) _); refine' pe_tuple ?a (hz := ?h); (case a => k_all); (case h => exact Nat.le_of_ble_eq_true rfl))
  | ((with_reducible show PE _ _ _ _ _ _ _ _ _ (.BinOp (.Tuple _ _ _) _ _ _) _); refine' pe_addt ?a ?b ?c ?d ?e; (case a => k_mem); (case b => k_mem); (case c => exact List.cons_ne_nil _ _); (case d => exact List.cons_ne_nil _ _); (case e => exact Nat.le_of_ble_eq_true rfl))
  | ((with_reducible show PE _ _ _ _ _ _ _ _ _ (.BinOp _ _ _ _) _); refine' pe_bin ?a ?b ?c; (case a => k_mem); (case b => k_mem); (case c => l_intsC))
  | ((with_reducible show PE _ _ _ _ _ _ _ _ _ (.Compare _ [_] _ _) _); refine' pe_cm ?a ?b ?c; (case a => k_mem); (case b => k_mem); (case c => k_allIn))
  | ((with_reducible show PE _ _ _ _ _ _ _ _ _ (.IfExp _ _ _ _) _); first
      | (refine' pe_if_f ?a ?b; (case a => k_memK); (case b => k_mem))
      | (refine' pe_if_t ?a ?b; (case a => k_memK); (case b => k_mem))
      | (refine' pe_ifi ?a ?b ?c; (case b => k_mem); (case c => k_mem); (case a => k_memK))
      | (refine' pe_ifa ?a ?b ?c; (case b => k_mem); (case c => k_mem); (case a => k_memK)))
  | ((with_reducible show PE _ _ _ _ _ _ _ _ _ (.BoolOp .And [_, _] _) _); first | (refine' pe_and_f ?a; (case a => k_mem)) | (refine' pe_andb ?a ?b; (case a => k_mem); (case b => k_mem)))
  | ((with_reducible show PE _ _ _ _ _ _ _ _ _ (.UnaryOp .USub _ _) _); refine' pe_neg ?a; (case a => k_mem))
  | ((with_reducible show PE _ _ _ _ _ _ _ _ _ (.Call (.Name _ _) _ _ _) _); refine' ev_bcall ?a ?b ?c; (case a => k_ownIn); (case b => k_all); (case c => k_intsEnd))
  | ((with_reducible show PE _ _ _ _ _ _ _ _ _ (.Call (.Name _ _) _ _ _) _); refine' ev_call ?F ?a ?b ?c; (case a => k_same); (case F => exact fn_of (by assumption) rfl rfl rfl); (case b => k_all); (case c => k_sub)))
local macro_rules | `(tactic| k_same) => `(tactic| focus (refine' mgr ?h ?a (hk := ?k) (hx := ?l) (hd := ?d); (case l => exact rfl); (case k => exact rfl); (case d => decide); (case h => assumption); (case a => exact rfl)))
local macro_rules | `(tactic| k_all) => `(tactic| focus first | exact .nil | (refine' PEs.one ?a ?b; (case a => k_mem); (case b => k_all)))
local macro_rules | `(tactic| k_upd) => `(tactic| focus first
  | exact .tup (by decide) (by decide) rfl
  | (refine' asub_td3 ?a ?b; (case a => k_made); (case b => assumption))
  | (refine' asub_td2 ?a ?b; (case a => k_made); (case b => assumption))
  | (refine' ASub.sd ?a ?b; (case a => k_made); (case b => exact rfl))
  | (refine' ASub.lst ?a ?b ?c ?d; (case a => k_made); (case b => l_ints); (case c => l_ints); (case d => first | exact rfl | assumption))
  | (refine' ASub.arr ?a ?b ?c ?d; (case a => k_made); (case b => l_ints); (case c => l_ints); (case d => first | exact rfl | assumption)))
local macro_rules | `(tactic| l_intsC) => `(tactic| focus first
  | exact .add _ _ | exact .sub _ _ | exact .mul _ _ mul_10 | exact .mul _ _ mul_7 | exact .mod _ _ (by first | decide | assumption) | exact .div _ _ (by decide) div_4)
local macro_rules | `(tactic| k_made) => `(tactic| focus first | assumption | exact .inl (by assumption) | exact .inr (by assumption) | exact .inl (HM.put_self ..))
local macro_rules | `(tactic| k_allIn) => `(tactic| focus first
  | exact .base (.eqI _ _) | exact .base (.neI _ _) | exact .base (.ltI _ _) | exact .base (.leI _ _) | exact .base (.gtI _ _) | exact .base (.geI _ _) | exact .base (.eqS _ _) | exact .base (.neS _ _) | exact acm_neB
  | exact acm_nin3 (by assumption) | exact acm_in3 (by assumption)
  | exact .base .isNN | exact .base (.isTN _) | exact .base .isnNN | exact .base (.isnTN _)
  | (refine' ACm.eqD ?a ?b ?c ?d; (case a => exact rfl); (case b => exact rfl); (case c => first | exact rfl | kernel_rfl); (case d => first | exact rfl | kernel_rfl))
  | (refine' ACm.neD ?a ?b ?c ?d; (case a => exact rfl); (case b => exact rfl); (case c => first | exact rfl | kernel_rfl); (case d => first | exact rfl | kernel_rfl))
  | (refine' ACm.inT ?a ?b ?c ?d; (case a => exact rfl); (case b => exact rfl); (case c => first | exact rfl | kernel_rfl); (case d => first | exact rfl | kernel_rfl))
  | (refine' ACm.ninT ?a ?b ?c ?d; (case a => exact rfl); (case b => exact rfl); (case c => first | exact rfl | kernel_rfl); (case d => first | exact rfl | kernel_rfl)))
local macro_rules | `(tactic| k_memK) => `(tactic| focus first
  | ((with_reducible show PT _ _ _ _ _ _ _ _ _ (.Compare _ [_] _ _) _); refine' pt_cm ?a ?b ?c; (case a => k_mem); (case b => k_mem); (case c => k_allIn))
  | ((with_reducible show PT _ _ _ _ _ _ _ _ _ (.Compare _ [_, _] _ _) _); refine' pt_chain2 ?a ?b ?c ?d ?e; (case a => k_mem); (case b => k_mem); (case c => k_mem); (case d => k_allIn); (case e => k_allIn))
  | ((with_reducible show PT _ _ _ _ _ _ _ _ _ (.BoolOp .And [] _) _); exact tv_and_nil)
  | ((with_reducible show PT _ _ _ _ _ _ _ _ _ (.BoolOp .Or [] _) _); exact tv_or_nil)
  | ((with_reducible show PT _ _ _ _ _ _ _ _ _ (.BoolOp .And _ _) _); first | (refine' pt_and_f ?a; (case a => k_memK)) | (refine' pt_and ?a (fun _ => ?b); (case a => k_memK); (case b => k_memK)))
  | ((with_reducible show PT _ _ _ _ _ _ _ _ _ (.BoolOp .Or _ _) _); first | (refine' pt_or_t ?a; (case a => k_memK)) | (refine' pt_or ?a (fun _ => ?b); (case a => k_memK); (case b => k_memK)))
  | ((with_reducible show PT _ _ _ _ _ _ _ _ _ (.UnaryOp .Not _ _) _); first | (refine' pt_not_t ?a; (case a => k_memK)) | (refine' pt_not_f ?a; (case a => k_memK)) | (refine' pt_not ?a; (case a => k_memK)))
  | (refine' pt_plain ?a ?b (he := ?c); (case c => exact rfl); (case a => k_mem); (case b => constructor; done)))
local macro_rules | `(tactic| k_intsEnd) => `(tactic| focus first | exact cl_abs | exact cl_min | exact cl_len (by first | exact .inl (by assumption) | exact .inr (by assumption)) (by omega))
local macro_rules | `(tactic| k_ownIn) => `(tactic| focus (refine' pe_builtin ?a ?b ?c; (case a => exact mgn (by assumption) rfl); (case b => exact bi_at (by assumption) (by decide) rfl); (case c => exact fun _ => .bi _)))
local macro_rules | `(tactic| l_fit) => `(tactic| focus (intro vs h; first
  | (obtain ⟨_, e⟩ := len1 h; subst e; exact rfl)
  | (obtain ⟨_, _, e⟩ := len2 h; subst e; exact rfl)
  | (obtain ⟨_, _, _, e⟩ := len3 h; subst e; exact rfl)
  | (obtain ⟨_, _, _, _, e⟩ := len4 h; subst e; exact rfl)))
local macro_rules | `(tactic| k_updF) => `(tactic| focus first
  | ((with_reducible show EXS _ _ _ _ _ _ _ _ _ (.Return (some _) _ :: _) _); refine' exs_ret ?a ?b; (case a => k_mem); (try exact ⟨rfl, rfl⟩))
  | ((with_reducible show EXS _ _ _ _ _ _ _ _ _ (.If _ _ [] _ :: _) _); refine' exs_if0 ?a ?b ?c; (case a => k_memK))
  | ((with_reducible show EXS _ _ _ _ _ _ _ _ _ (.If _ _ _ _ :: _) _); refine' exs_if1 ?a ?b ?c; (case a => k_memK))
  | ((with_reducible show EXS _ _ _ _ _ _ _ _ _ (.Assign [.Name _ _] _ _ :: _) _); refine' exs_nm ?a ?b; (case a => k_mem))
  | ((with_reducible show EXS _ _ _ _ _ _ _ _ _ (.Assign [.Tuple [.Name _ _, .Name _ _] _ _] (.Tuple _ _ _) _ :: _) _); refine' exs_sw2 ?a ?b; (case a => k_mem))
  | ((with_reducible show EXS _ _ _ _ _ _ _ _ _ ([]) _); refine' exs_0 ?a)
  | refine' cont_next ?a | refine' cont_ret ?a)
local macro_rules | `(tactic| l_ints) => `(tactic| first | assumption | decide | omega)
local macro_rules | `(tactic| k_upd) => `(tactic| focus assumption)
local macro_rules | `(tactic| k_sub) => `(tactic| focus first
  | exact CL.less (by assumption) (by decide)
  )

-- TPure
section
variable {w : World} {X : Cx PW w}
theorem c_key_of (hK : IsK X) {x0 x1 x2 x3 x4 x5 x6 : Int} {H : HM} : PC X 10 (.ref 51) [.tup [.int x0, .int x1, .int x2, .int x3, .int x4, .int x5, .int x6]] H (.tup [.int x2, .int x3, .int x4]) := by
  refine cl_def (n := 8) (fn_of hK (f := 51) rfl rfl rfl) (names := ["head"]) (by l_fit) (by decide) (by decide) fun L => ?_
  refine exs_cons (ex_return (EV.of_PE (by k_mem) ?_))
  exact ⟨rfl, rfl⟩

/-- what newer_of says of two heads, by their ages, numbers and sums -/
noncomputable def newer (a n c b m d : Int) : Int := if n != m then (if decide (m < n) then 1 else -1) else if c != d then (if decide (d < c) then 1 else -1) else
  if decide (3600 ≤ a) != decide (3600 ≤ b) then (if decide (3600 ≤ a) then 1 else -1) else if decide (900 < if a - b < 0 then -(a - b) else a - b) then (if decide (a < b) then 1 else -1) else 0
theorem c_newer (hK : IsK X) {x0 x1 x2 x3 x4 x5 x6 y0 y1 y2 y3 y4 y5 y6 : Int} {H : HM} : PC X 10 (.ref 36) [.tup [.int x0, .int x1, .int x2, .int x3, .int x4, .int x5, .int x6], .tup [.int y0, .int y1, .int y2, .int y3, .int y4, .int y5, .int y6]] H (.int (newer x0 x5 x6 y0 y5 y6)) := by
  refine cl_defB (n := 8) (dvs := [.int 3600 207, .int 900 209]) (das := [.int 3600, .int 900]) (fn_of hK (f := 36) rfl rfl rfl) (names := ["one", "other", "max_age", "max_diff"]) (fun h => .cons (.int _ _) (.cons (.int _ _) .nil)) ?_ (by decide) (by decide) fun L => ?_
  · intro s vs hs h
    rcases vs with _ | ⟨a, _ | ⟨b, _ | ⟨c, _⟩⟩⟩ <;> simp at h
    exact binds_K (K := hd.heap_39 w.params) (fun b o e => hs b o (X.KIn b o (by rw [hK.k]; exact e))) rfl rfl rfl rfl rfl
  refine exs_cons (ex_ifp (by k_memK) (fun c => ?_) (fun c => ?_))
  · refine exs_cons (ex_return (EV.of_PE (by k_mem) ?_))
    exact ⟨by simp only [newer, c, if_true], rfl⟩
  refine exs_nil ?_
  refine exs_cons (ex_ifp (by k_memK) (fun c1 => ?_) (fun c1 => ?_))
  · refine exs_cons (ex_return (EV.of_PE (by k_mem) ?_))
    exact ⟨by simp only [newer, c, c1, if_true, Bool.false_eq_true, if_false], rfl⟩
  refine exs_nil ?_
  refine exs_cons (ex_ifp (by k_memK) (fun c2 => ?_) (fun c2 => ?_))
  · refine exs_cons (ex_return (EV.of_PE (by k_mem) ?_))
    exact ⟨by simp only [newer, c, c1, c2, if_true, Bool.false_eq_true, if_false], rfl⟩
  refine exs_nil ?_
  refine exs_cons (ex_ifp (by k_memK) (fun c3 => ?_) (fun c3 => ?_))
  · refine exs_cons (ex_return (EV.of_PE (by k_mem) ?_))
    exact ⟨by simp only [newer, c, c1, c2, c3, if_true, Bool.false_eq_true, if_false], rfl⟩
  refine exs_nil ?_
  refine exs_cons (ex_return (EV.of_PE (by k_mem) ?_))
  exact ⟨by simp only [newer, c, c1, c2, c3, if_true, Bool.false_eq_true, if_false], rfl⟩

/-- an age, gone on -/
noncomputable def older (a s : Int) : Int := if 3600 < a + s then 3600 else a + s
theorem c_aged_head (hK : IsK X) {x0 x1 x2 x3 x4 x5 x6 sec : Int} {H : HM} : PC X 10 (.ref 44) [.tup [.int x0, .int x1, .int x2, .int x3, .int x4, .int x5, .int x6], .int sec] H (.tup [.int (older x0 sec), .int x1, .int x2, .int x3, .int x4, .int x5, .int x6]) := by
  refine cl_defB (n := 8) (dvs := [.int 3600 207]) (das := [.int 3600]) (fn_of hK (f := 44) rfl rfl rfl) (names := ["head", "seconds", "max_age"]) (fun h => .cons (.int _ _) .nil) ?_ (by decide) (by decide) fun L => ?_
  · intro s vs hs h
    rcases vs with _ | ⟨a, _ | ⟨b, _ | ⟨c, _⟩⟩⟩ <;> simp at h
    exact binds_K (K := hd.heap_39 w.params) (fun b o e => hs b o (X.KIn b o (by rw [hK.k]; exact e))) rfl rfl rfl rfl rfl
  refine exs_cons (ex_return (EV.of_PE (by k_mem) ?_))
  exact ⟨rfl, rfl⟩
local macro_rules | `(tactic| k_sub) => `(tactic| focus first
  | exact CL.less (c_aged_head (by assumption)) (by decide)
  )

theorem c_aged (hK : IsK X) {x0 x1 x2 x3 x4 x5 x6 sec : Int} {b : AV} {H : HM} : PC X 20 (.ref 58) [.tup [.tup [.int x0, .int x1, .int x2, .int x3, .int x4, .int x5, .int x6], b], .int sec] H (.tup [.tup [.int (older x0 sec), .int x1, .int x2, .int x3, .int x4, .int x5, .int x6], b]) := by
  refine cl_def (n := 18) (fn_of hK (f := 58) rfl rfl rfl) (names := ["lsa", "seconds"]) (by l_fit) (by decide) (by decide) fun L => ?_
  refine exs_cons (ex_return (EV.of_PE (by k_mem) ?_))
  exact ⟨rfl, rfl⟩
end

local macro_rules | `(tactic| k_sub) => `(tactic| focus first
  | exact CL.less (c_key_of (by assumption)) (by decide)
  | exact CL.less (c_newer (by assumption)) (by decide)
  | exact CL.less (c_aged_head (by assumption)) (by decide)
  | exact CL.less (c_aged (by assumption)) (by decide)
  )

-- TPure2
section
variable {w : World} {X : Cx PW w}
noncomputable abbrev headV (a p n : Int) : AV := .tup [.int a, .int 2, .int 1, .int 7, .int (p + 1), .int n, .int 3]
noncomputable abbrev bodyV (p n : Int) : AV := .tup [.str "router", .int (10 * p + n), .tup []]
noncomputable abbrev lsaV (a p n : Int) : AV := .tup [headV a p n, bodyV p n]

theorem c_is_changed0 (hK : IsK X) {lsa : AV} {H : HM} : CL X 20 (.ref 65) [.none, lsa] H fun _ H' => H' = H := by
  refine cl_def (n := 18) (fn_of hK (f := 65) rfl rfl rfl) (names := ["old", "new"]) (by l_fit) (by decide) (by decide) fun L => ?_
  k_updF
  · intro c; k_updF; rfl
  · intro c; cases c
theorem c_is_changed1 (hK : IsK X) {a p n b q m : Int} {H : HM} : CL X 20 (.ref 65) [lsaV a p n, lsaV b q m] H fun _ H' => H' = H := by
  refine cl_def (n := 18) (fn_of hK (f := 65) rfl rfl rfl) (names := ["old", "new"]) (by l_fit) (by decide) (by decide) fun L => ?_
  k_updF
  · intro c; k_updF; rfl
  intro c
  k_updF
  · intro c; k_updF; rfl
  intro c
  k_updF
  rfl
theorem c_law_row (hK : IsK X) {p n : Int} {H : HM} : PC X 10 (.ref 294) [.int p, .int n] H (lsaV 0 p n) := by
  refine cl_def (n := 8) (fn_of hK (f := 294) rfl rfl rfl) (names := ["spot", "number"]) (by l_fit) (by decide) (by decide) fun L => ?_
  k_updF
theorem c_barred (hK : IsK X) {a p n : Int} {H : HM} : PC X 10 (.ref 193) [headV a p n, .bool false] H (.str "") := by
  refine cl_def (n := 8) (fn_of hK (f := 193) rfl rfl rfl) (names := ["head", "is_stub"]) (by l_fit) (by decide) (by decide) fun L => ?_
  k_updF
  · intro c; cases c
  intro c
  k_updF
theorem c_hellos (hK : IsK X) {H : HM} : PC X 10 (.ref 28) [.str "point_to_point"] H (.bool true) := by
  refine cl_def (n := 8) (fn_of hK (f := 28) rfl rfl rfl) (names := ["state"]) (by l_fit) (by decide) (by decide) fun L => ?_
  k_updF
local macro_rules | `(tactic| k_sub) => `(tactic| focus first
  | exact CL.less (c_hellos (by assumption)) (by decide)
  | exact CL.less (c_barred (by assumption)) (by decide)
  )

/-- a face's dict -/
noncomputable abbrev faceD (j : Int) (nl : Addr) : AO := .sd [("number", .int j), ("area", .int 0), ("stub", .bool false), ("state", .str "point_to_point"), ("delay", .int 1), ("dr", .int 0), ("bdr", .int 0), ("neighbours", .ref nl)]
noncomputable abbrev mateD (r : Int) (rq ow : Addr) : AO := .sd [("router", .int r), ("state", .str "full"), ("requests", .ref rq), ("owed", .ref ow)]
theorem c_is_reached (hK : IsK X) {f nl : Addr} {j : Int} {H : HM} (hf : At X H f (faceD j nl)) : PC X 20 (.ref 207) [.ref f, .int 1, .int 0] H (.bool true) := by
  refine cl_def (n := 18) (fn_of hK (f := 207) rfl rfl rfl) (names := ["interface", "kind", "area"]) (by l_fit) (by decide) (by decide) fun L => ?_
  k_updF
  · intro c; cases c
  intro c
  k_updF
theorem c_sent (hK : IsK X) {f nl : Addr} {a p n : Int} {j : Int} {H : HM} (hf : At X H f (faceD j nl)) : PC X 30 (.ref 242) [lsaV a p n, .ref f] H (lsaV (older a 1) p n) := by
  refine cl_def (n := 28) (fn_of hK (f := 242) rfl rfl rfl) (names := ["lsa", "interface"]) (by l_fit) (by decide) (by decide) fun L => ?_
  k_updF
end

local macro_rules | `(tactic| k_sub) => `(tactic| focus first
  | exact CL.less (c_is_reached (by assumption) (by assumption)) (by decide)
  | exact CL.less (c_sent (by assumption) (by assumption)) (by decide)
  | exact CL.less (c_law_row (by assumption)) (by decide)
  | exact CL.less (c_barred (by assumption)) (by decide)
  )

-- TDb2
section
variable {w : World} {X : Cx PW w}
theorem c_look0 (hK : IsK X) {x rw : Addr} {m : List (List Int × AV)} {i j l now : Int} {H : HM} (D : DbAt X x rw) (hr : H rw = some (.td m)) (hm : lookA m [i, j, l] = none) : PC X 40 (.ref 93) [.ref x, .tup [.int i, .int j, .int l], .int now] H .none := by
  refine cl_def (n := 38) (fn_of hK (f := 93) rfl rfl rfl) (names := ["self", "key", "now"]) (by l_fit) (by decide) (by decide) fun L => ?_
  k_updF
  · intro c; k_updF
  · intro c; rw [hm] at c; cases c
theorem c_look1 (hK : IsK X) {x rw : Addr} {m : List (List Int × AV)} {i j l now a p n t : Int} {H : HM} (D : DbAt X x rw) (hr : H rw = some (.td m)) (hm : lookA m [i, j, l] = some (.tup [lsaV a p n, .int t])) : PC X 40 (.ref 93) [.ref x, .tup [.int i, .int j, .int l], .int now] H (lsaV (older a (now - t)) p n) := by
  refine cl_def (n := 38) (fn_of hK (f := 93) rfl rfl rfl) (names := ["self", "key", "now"]) (by l_fit) (by decide) (by decide) fun L => ?_
  k_updF
  · intro c; rw [hm] at c; cases c
  intro c
  refine' exs_as ?a ?b
  case a => k_mem
  refine tg_tuple (tgs_cons (tg_name (tgs_cons (tg_name (tgs_nil ?_)))))
  k_updF
theorem c_since (hK : IsK X) {x rw : Addr} {m : List (List Int × AV)} {i j l t : Int} {v : AV} {H : HM} (D : DbAt X x rw) (hr : H rw = some (.td m)) (hm : lookA m [i, j, l] = some (.tup [v, .int t])) : PC X 40 (.ref 100) [.ref x, .tup [.int i, .int j, .int l]] H (.int t) := by
  refine cl_def (n := 38) (fn_of hK (f := 100) rfl rfl rfl) (names := ["self", "key"]) (by l_fit) (by decide) (by decide) fun L => ?_
  k_updF
  refine ⟨?_, rfl⟩
  rw [hm]; rfl
theorem c_put (hK : IsK X) {x rw : Addr} {m : List (List Int × AV)} {now a p n : Int} {H : HM} (D : DbAt X x rw) (hr : H rw = some (.td m)) (hz : m.length ≤ 1000)
    (hm : lookA m [1, 7, p + 1] = none ∨ ∃ b k t, lookA m [1, 7, p + 1] = some (.tup [lsaV b p k, .int t])) : CL X 60 (.ref 86) [.ref x, lsaV a p n, .int now] H fun _ H' => H' = H.put rw (.td (storeA m [1, 7, p + 1] (.tup [lsaV a p n, .int now]))) := by
  refine cl_def (n := 58) (fn_of hK (f := 86) rfl rfl rfl) (names := ["self", "lsa", "now"]) (by l_fit) (by decide) (by decide) fun L => ?_
  k_updF
  have hlook : ∃ old, PC X 40 (.ref 93) [.ref x, .tup [.int 1, .int 7, .int (p + 1)], .int now] H old ∧ (old = .none ∨ ∃ b k, old = lsaV b p k) := by
    rcases hm with hm | ⟨b, k, t, hm⟩
    · exact ⟨_, c_look0 hK D hr hm, .inl rfl⟩
    · exact ⟨_, c_look1 hK D hr hm, .inr ⟨_, _, rfl⟩⟩
  obtain ⟨old, hl, ho⟩ := hlook
  refine' exs_nm ?u1 ?v1
  case u1 =>
    refine' ev_db (by assumption) ?a D ?b ?F ?f ?t ?h ?c
    case a => k_mem
    case b => k_all
    case f => rfl
    case F => exact fn_of hK rfl rfl rfl
    case t => rfl
    case h => decide
    case c => exact hl.less (by decide)
  refine' exs_as ?u2 ?v2
  case u2 => k_mem
  refine' tg_sub ?u3 ?u4 ?u5 ?u6
  case u3 => k_mem
  case u4 => k_mem
  case u5 => exact set_td3 hr hz
  refine' exs_retE ?u7
  refine' ev_call ?u8 ?u9 ?w1 ?w2
  case u9 => k_same
  case u8 => exact fn_of hK rfl rfl rfl
  case w1 => k_all
  rcases ho with rfl | ⟨b, k, rfl⟩
  · exact ((c_is_changed0 hK).less (by decide)).mono fun _ _ e => e
  · exact ((c_is_changed1 hK).less (by decide)).mono fun _ _ e => e
end

-- TLay
section
variable {w : World} {X : Cx PW w}

noncomputable abbrev Slot := Nat × Nat × Nat
noncomputable abbrev sNet : Slot := (0, 0, 0)
noncomputable abbrev sWire : Slot := (1, 0, 0)
noncomputable abbrev sTold : Slot := (2, 0, 0)
noncomputable abbrev sBox : Slot := (3, 0, 0)
noncomputable abbrev sRows (i : Nat) : Slot := (4, i, 0)
noncomputable abbrev sOwed (i j : Nat) : Slot := (5, i, j)

noncomputable def degOf (r : Bool) (i : Nat) : Nat := if i = 1 ∨ r = true then 2 else 1
noncomputable def wayOf : Nat → Nat → Nat
  | 0, 0 => 1
  | 0, _ => 2
  | 1, 0 => 0
  | 1, _ => 2
  | _, 0 => 1
  | _, _ => 0
/-- where the objects of the net stand -/
structure Lay (X : Cx PW w) where
  addr : Slot → Addr
  slots : List Slot
  inj : ∀ σ ∈ slots, ∀ τ ∈ slots, addr σ = addr τ → σ = τ
  deg : Nat → Nat
  way : Nat → Nat → Nat
  nd : Nat → Addr
  db : Nat → Addr
  fl : Nat → Addr
  wl : Nat → Addr
  fc : Nat → Nat → Addr
  nl : Nat → Nat → Addr
  md : Nat → Nat → Addr
  rq : Nat → Nat → Addr
  nodes : Addr
  ring : Bool
  edeg : ∀ i < 3, deg i = degOf ring i
  eway : ∀ i < 3, ∀ j < deg i, way i j = wayOf i j
  hdeg : ∀ i < 3, deg i = 1 ∨ deg i = 2
  hway : ∀ i < 3, ∀ j < deg i, way i j < 3
  hnodes : X.S nodes = some (.lst [.ref (nd 0), .ref (nd 1), .ref (nd 2)])
  hnd : ∀ i < 3, X.S (nd i) = some (.sd [("base", .ref (db i)), ("faces", .ref (fl i)), ("ways", .ref (wl i))])
  hdb : ∀ i < 3, DbAt X (db i) (addr (sRows i))
  hfl : ∀ i < 3, X.S (fl i) = some (.lst ((List.range (deg i)).map fun j => .ref (fc i j)))
  hwl : ∀ i < 3, X.S (wl i) = some (.lst ((List.range (deg i)).map fun j => .int (way i j)))
  hfc : ∀ i < 3, ∀ j < deg i, X.S (fc i j) = some (faceD j (nl i j))
  hnl : ∀ i < 3, ∀ j < deg i, X.S (nl i j) = some (.lst [.ref (md i j)])
  hmd : ∀ i < 3, ∀ j < deg i, X.S (md i j) = some (mateD (way i j + 1) (rq i j) (addr (sOwed i j)))
  hsl : ∀ σ ∈ slots, σ = sNet ∨ σ = sWire ∨ σ = sTold ∨ σ = sBox ∨ (∃ i, i < 3 ∧ σ = sRows i) ∨ ∃ i j, i < 3 ∧ j < deg i ∧ σ = sOwed i j
  inet : sNet ∈ slots
  iwire : sWire ∈ slots
  itold : sTold ∈ slots
  ibox : sBox ∈ slots
  irows : ∀ i < 3, sRows i ∈ slots
  iowed : ∀ i < 3, ∀ j < deg i, sOwed i j ∈ slots

/-- the turning objects -/
noncomputable def Lay.hm (A : Lay X) (C : Slot → AO) : HM := fun b => (A.slots.find? fun σ => A.addr σ = b).map C
noncomputable def upd (C : Slot → AO) (σ : Slot) (o : AO) : Slot → AO := fun τ => if τ = σ then o else C τ
theorem upd_self {C : Slot → AO} {σ : Slot} {o : AO} : upd C σ o σ = o := if_pos rfl
theorem upd_ne {C : Slot → AO} {σ τ : Slot} {o : AO} (h : τ ≠ σ) : upd C σ o τ = C τ := if_neg h
theorem Lay.find (A : Lay X) {σ : Slot} (h : σ ∈ A.slots) : (A.slots.find? fun τ => A.addr τ = A.addr σ) = some σ := by
  cases q : A.slots.find? fun τ => A.addr τ = A.addr σ with
  | none => exact absurd (List.find?_eq_none.mp q σ h) (by simp)
  | some τ => 
    have h1 := List.find?_some q
    have h2 := List.mem_of_find?_eq_some q
    rw [A.inj τ h2 σ h (by simpa using h1)]
theorem Lay.at (A : Lay X) (C : Slot → AO) {σ : Slot} (h : σ ∈ A.slots) : A.hm C (A.addr σ) = some (C σ) := by unfold Lay.hm; rw [A.find h]; rfl
theorem Lay.put (A : Lay X) (C : Slot → AO) {σ : Slot} (h : σ ∈ A.slots) (o : AO) : (A.hm C).put (A.addr σ) o = A.hm (upd C σ o) := by
  funext b
  unfold HM.put
  by_cases e : b = A.addr σ
  · subst e; rw [if_pos rfl, A.at _ h, upd_self]
  · rw [if_neg e]
    unfold Lay.hm
    cases q : A.slots.find? fun τ => A.addr τ = b with
    | none => rfl
    | some τ =>
      have h1 := List.find?_some q
      have ne : τ ≠ σ := fun q2 => by subst q2; exact e (by simpa using h1 : A.addr τ = b).symm
      simp [upd_ne ne]
theorem Lay.off (A : Lay X) (C C' : Slot → AO) {t : Addr} (ht : A.hm C t = none) : A.hm C' t = none := by
  unfold Lay.hm at ht ⊢
  cases q : A.slots.find? fun τ => A.addr τ = t with
  | none => rfl
  | some τ => rw [q] at ht; cases ht
section
variable {nm : Str} {sc : Scope} {L fa : Addr} {cd : Value} {n : Nat} {ρ : List (Str × AV)} {H : HM}
/-- what a turn of a loop leaves to do -/
noncomputable def LpC (X : Cx PW w) (n : Nat) (nm : Str) (sc : Scope) (L fa : Addr) (cd : Value) (t : Expr) (body : List Stmt) (xs : List AV) (Q : AF → List (Str × AV) → HM → Prop) (f : AF) (ρ : List (Str × AV)) (H : HM) : Prop := match f with
  | .next => Lp X n nm sc L fa cd t body xs ρ H Q
  | .cont => Lp X n nm sc L fa cd t body xs ρ H Q
  | .brk => Q .next ρ H
  | .ret a => Q (.ret a) ρ H
theorem lp_nil {t : Expr} {body : List Stmt} {Q : AF → List (Str × AV) → HM → Prop} (q : Q .next ρ H) : Lp X n nm sc L fa cd t body [] ρ H Q := q
theorem lp_name {x : Str} {p : Pos} {body : List Stmt} {a : AV} {xs : List AV} {Q : AF → List (Str × AV) → HM → Prop} (h : EXS X n nm sc L fa cd ((x, a) :: ρ) H body (LpC X n nm sc L fa cd (.Name x p) body xs Q))
    (hl : (envOf nm sc L fa cd).kindOf x = some .local := by rfl) (hk : sc.kind = .function := by rfl) : Lp X n nm sc L fa cd (.Name x p) body (a :: xs) ρ H Q :=
  tg_name (h.mono fun f _ _ q => by cases f <;> exact q) hl hk
theorem lpc_next {t : Expr} {body : List Stmt} {xs : List AV} {Q : AF → List (Str × AV) → HM → Prop} (h : Lp X n nm sc L fa cd t body xs ρ H Q) : LpC X n nm sc L fa cd t body xs Q .next ρ H := h
theorem lpc_cont {t : Expr} {body : List Stmt} {xs : List AV} {Q : AF → List (Str × AV) → HM → Prop} (h : Lp X n nm sc L fa cd t body xs ρ H Q) : LpC X n nm sc L fa cd t body xs Q .cont ρ H := h
theorem exs_for {x : Str} {p : Pos} {iter : Expr} {body rest : List Stmt} {pos : Pos} {a : Addr} {xs : List AV} {Q : AF → List (Str × AV) → HM → Prop} (hi : PE X (n + 1) nm sc L fa cd ρ H iter (.ref a)) (ha : X.S a = some (.lst xs))
    (l : Lp X n nm sc L fa cd (.Name x p) body xs ρ H (Cont X n nm sc L fa cd rest Q)) (hs : ∀ x, foldedSetIterable iter (envOf nm sc L fa cd) x = pure x := by intro _; rfl) : EXS X n nm sc L fa cd ρ H (.For (.Name x p) iter body [] pos :: rest) Q :=
  exs_c (ex_for_lst hi ha l hs)
theorem exs_forH {x : Str} {p : Pos} {iter : Expr} {body rest : List Stmt} {pos : Pos} {a : Addr} {xs : List AV} {Q : AF → List (Str × AV) → HM → Prop} (hi : PE X (n + 1) nm sc L fa cd ρ H iter (.ref a)) (ha : H a = some (.lst xs))
    (l : Lp X n nm sc L fa cd (.Name x p) body xs ρ (H.drop a) fun f ρ' H' => H' a = none → Cont X n nm sc L fa cd rest Q f ρ' (H'.put a (.lst xs))) (hs : ∀ x, foldedSetIterable iter (envOf nm sc L fa cd) x = pure x := by intro _; rfl) : EXS X n nm sc L fa cd ρ H (.For (.Name x p) iter body [] pos :: rest) Q :=
  exs_c (ex_for_hlst hi ha l hs)
end
end

-- TOwe
section
variable {w : World} {X : Cx PW w}
theorem atK (hK : IsK X) {a : Addr} {o : Obj} (e : (hd.heap_39 w.params).lookup a = some o) {h : Heap} (k : ∀ b o, X.h₀.get? b = some o → h.get? b = some o) : h.get? a = some o := k _ _ (X.KIn a o (by rw [hK.k]; exact e))
theorem states_tup (hK : IsK X) {h : Heap} (k : ∀ b o, X.h₀.get? b = some o → h.get? b = some o) : ∃ ts : List Tok, ∃ o, h.get? 172 = some o ∧ o.dict = none ∧ ts.length = 8 ∧ IsTup h 172 (((["down", "attempt", "init", "two_way", "exstart", "exchange", "loading", "full"] : List Str).zip ts).map fun p => Value.str p.1 p.2).toArray := by
  have e2 := atK hK (a := 172) rfl k
  exact ⟨[_, _, _, _, _, _, _, _], _, e2, rfl, rfl, _, e2, rfl, _, rfl⟩
theorem ty_states (hK : IsK X) {H : HM} : TyOf X H (.ref 172) "tuple" := fun s v G i => by
  first | apply i.ref_elim | apply i.bool_elim | apply i.ty_elim | apply i.bi_elim | cases i
  obtain ⟨ts, o, e, hd, _, ht⟩ := states_tup hK G.keep
  exact ⟨ht.typeIs, fun a q => by cases q; exact ⟨o, e, hd⟩⟩
theorem cl_states (hK : IsK X) {x : Str} {j : Nat} {n : Nat} {H : HM} (hj : (["down", "attempt", "init", "two_way", "exstart", "exchange", "loading", "full"] : List Str)[j]? = some x) (hlt : j < 8)
    (hno : ∀ m, m < j → (["down", "attempt", "init", "two_way", "exstart", "exchange", "loading", "full"] : List Str)[m]? ≠ some x) : PC X n (.builtin "tuple.index") [.ref 172, .str x] H (.int j) := fun A s vs ok G il => by
  obtain ⟨_, _, rfl, i1, i2⟩ := il.two
  first | apply i1.ref_elim | apply i1.bool_elim | apply i1.ty_elim | apply i1.bi_elim | cases i1
  cases i2
  obtain ⟨ts, o, e, hd, hl, ht⟩ := states_tup hK G.keep
  have hm : (((["down", "attempt", "init", "two_way", "exstart", "exchange", "loading", "full"] : List Str).zip ts).map (·.1)) = (["down", "attempt", "init", "two_way", "exstart", "exchange", "loading", "full"] : List Str) := by
    rw [List.map_fst_zip]; simp [hl]
  refine call_tindex ht (j := j) (by simp [hl]; exact hlt) (by rw [hm]; exact hj) (by rw [hm]; exact hno) fun tk t => ?_
  obtain ⟨g, x⟩ := G.grow (s' := { s with toks := tk }) (fun _ _ e => e) rfl rfl
  exact ⟨_, H, .int _ _, g, x, rfl, rfl⟩
theorem c_at_least (hK : IsK X) {H : HM} : PC X 20 (.ref 179) [.str "full", .str "exchange"] H (.bool true) := by
  refine cl_def (n := 18) (fn_of hK (f := 179) rfl rfl rfl) (names := ["state", "floor"]) (by l_fit) (by decide) (by decide) fun L => ?_
  refine' exs_ret ?u1 ?u2
  case u1 =>
    refine' pe_cm ?u3 ?u4 ?u5
    case u3 =>
      refine' ev_meth ?v1 ?v2 ?v3 F.plainAttrs_tuple F.slot_tuple_index F.type_tuple_index ?v4
      case v1 => exact mgr hK rfl
      case v2 => k_all
      case v3 => exact ty_states hK
      case v4 => exact cl_states hK (j := 7) rfl (by decide) (by decide)
    case u4 =>
      refine' ev_meth ?v1 ?v2 ?v3 F.plainAttrs_tuple F.slot_tuple_index F.type_tuple_index ?v4
      case v1 => exact mgr hK rfl
      case v2 => k_all
      case v3 => exact ty_states hK
      case v4 => exact cl_states hK (j := 5) rfl (by decide) (by decide)
    case u5 => k_allIn
  exact ⟨rfl, rfl⟩
local macro_rules | `(tactic| k_sub) => `(tactic| focus first
  | exact CL.less (c_at_least (by assumption)) (by decide)
  )

theorem c_exch (hK : IsK X) {H : HM} : PC X 30 (.ref 186) [.str "full"] H (.bool true) := by
  refine cl_def (n := 28) (fn_of hK (f := 186) rfl rfl rfl) (names := ["state"]) (by l_fit) (by decide) (by decide) fun L => ?_
  k_updF
theorem c_met (hK : IsK X) {md rq ow : Addr} {r a p n : Int} {H : HM} (hm : At X H md (mateD r rq ow)) : PC X 30 (.ref 214) [.ref md, headV a p n] H (.bool true) := by
  refine cl_def (n := 28) (fn_of hK (f := 214) rfl rfl rfl) (names := ["neighbour", "head"]) (by l_fit) (by decide) (by decide) fun L => ?_
  k_updF
  refine' exs_if0 (c := true) ?u1 ?u2 ?u3
  case u1 => refine' pt_or_t ?v1; (case v1 => k_memK)
  case u2 => intro _; k_updF
  case u3 => intro c; cases c
end

local macro_rules | `(tactic| k_sub) => `(tactic| focus first
  | exact CL.less (c_exch (by assumption)) (by decide)
  | exact CL.less (c_met (by assumption) (by assumption)) (by decide)
  )

-- TOwe2
section
variable {w : World} {X : Cx PW w}
theorem c_owe (hK : IsK X) {f nl md rq ow : Addr} {j r a p n sender : Int} {m : List (List Int × AV)} {H : HM} (hf : At X H f (faceD j nl)) (hn : X.S nl = some (.lst [.ref md])) (hm : X.S md = some (mateD r rq ow)) (ho : H ow = some (.td m)) (hz : m.length ≤ 1000) :
    CL X 60 (.ref 221) [.ref f, lsaV a p n, .int sender] H fun b H' => b = .bool (r != sender) ∧ H' = if r != sender then H.put ow (.td (storeA m [1, 7, p + 1] (lsaV a p n))) else H := by
  have hm' : At X H md (mateD r rq ow) := .inr hm
  refine cl_def (n := 58) (fn_of hK (f := 221) rfl rfl rfl) (names := ["interface", "lsa", "sender"]) (by l_fit) (by decide) (by decide) fun L => ?_
  k_updF
  refine' exs_for ?a1 hn ?a2
  case a1 => k_mem
  refine lp_name ?_
  refine' exs_if0 ?u1 ?u2 ?u3
  case u1 => k_memK
  case u2 =>
    intro c
    have c' : (r != sender) = true := by simpa using c
    rw [c', if_pos rfl]
    refine' exs_as ?v1 ?v2
    case v1 => k_mem
    refine' tg_sub ?w1 ?w2 ?w3 ?w4
    case w1 => k_mem
    case w2 => k_mem
    case w3 => exact set_td3 ho hz
    k_updF
    k_updF
    refine cont_next (exs_0 (lpc_next (lp_nil (cont_next ?_))))
    refine' exs_ret ?x1 ?x2
    case x1 => k_mem
    case x2 => exact ⟨rfl, rfl⟩
  case u3 =>
    intro c
    have c' : (r != sender) = false := by simpa using c
    rw [c', if_neg Bool.false_ne_true]
    refine (exs_0 (lpc_next (lp_nil (cont_next ?_))))
    k_updF
theorem c_settled0 (hK : IsK X) {md rq ow : Addr} {r a p n : Int} {m : List (List Int × AV)} {H : HM} (hm : At X H md (mateD r rq ow)) (ho : H ow = some (.td m)) (hl : lookA m [1, 7, p + 1] = none) : CL X 50 (.ref 256) [.ref md, headV a p n] H fun _ H' => H' = H := by
  refine cl_def (n := 48) (fn_of hK (f := 256) rfl rfl rfl) (names := ["neighbour", "head"]) (by l_fit) (by decide) (by decide) fun L => ?_
  k_updF
  k_updF
  · intro c; k_updF; rfl
  · intro c; rw [hl] at c; cases c
theorem c_settled1 (hK : IsK X) {md rq ow : Addr} {r a p n b k : Int} {m : List (List Int × AV)} {H : HM} (hm : At X H md (mateD r rq ow)) (ho : H ow = some (.td m)) (hl : lookA m [1, 7, p + 1] = some (lsaV b p k)) (hz : m.length ≤ 1000) :
    CL X 50 (.ref 256) [.ref md, headV a p n] H fun _ H' => H' = if newer a n 3 b k 3 = 0 then H.put ow (.td (dropA m [1, 7, p + 1])) else H := by
  refine cl_def (n := 48) (fn_of hK (f := 256) rfl rfl rfl) (names := ["neighbour", "head"]) (by l_fit) (by decide) (by decide) fun L => ?_
  k_updF
  k_updF
  · intro c; rw [hl] at c; cases c
  intro c
  k_updF
  · intro c
    k_updF
    show H = if newer a n 3 b k 3 = 0 then H.put ow (.td (dropA m [1, 7, p + 1])) else H
    rw [if_neg (bne_iff_ne.mp c)]
  intro c
  have c' : newer a n 3 b k 3 = 0 := by simpa using c
  rw [if_pos c']
  refine' exs_ex ?u1
  refine' ev_meth ?v1 ?v2 ?v3 F.plainAttrs_dict F.slot_dict_pop F.type_dict_pop ?v4
  case v1 => k_mem
  case v2 => k_all
  case v3 => exact ty_td (.inl ho)
  refine (cl_dpop13 ho hz hl).thenH fun b => ?_
  k_updF
  rfl
end

-- TSt
section
variable {w : World} {X : Cx PW w}

noncomputable abbrev Mp := List (List Int × AV)
/-- the net's state -/
structure St where
  now : Int
  wire : List AV
  t0 : Int
  t1 : Int
  came : AV
  bl : Addr
  bk : Int
  rows : Nat → Mp
  owed : Nat → Nat → Mp
variable (A : Lay X)
noncomputable def Lay.cont (st : St) : Slot → AO := fun σ => match σ.1 with
  | 0 => .sd [("now", .int st.now), ("wire", .ref (A.addr sWire)), ("nodes", .ref A.nodes), ("told", .ref (A.addr sTold)), ("came", st.came)]
  | 1 => .lst st.wire
  | 2 => .arr [.int st.t0, .int st.t1]
  | 3 => .arr [.ref st.bl, .int st.bk]
  | 4 => .td (st.rows σ.2.1)
  | _ => .td (st.owed σ.2.1 σ.2.2)
noncomputable def Lay.H (st : St) : HM := A.hm (A.cont st)
theorem Lay.congr {C C' : Slot → AO} (h : ∀ σ ∈ A.slots, C σ = C' σ) : A.hm C = A.hm C' := by
  funext b
  unfold Lay.hm
  cases q : A.slots.find? fun τ => A.addr τ = b with
  | none => rfl
  | some τ => simp [h τ (List.mem_of_find?_eq_some q)]
theorem Lay.Hnet (st : St) : A.H st (A.addr sNet) = some (.sd [("now", .int st.now), ("wire", .ref (A.addr sWire)), ("nodes", .ref A.nodes), ("told", .ref (A.addr sTold)), ("came", st.came)]) := A.at _ A.inet
theorem Lay.Hwire (st : St) : A.H st (A.addr sWire) = some (.lst st.wire) := A.at _ A.iwire
theorem Lay.Htold (st : St) : A.H st (A.addr sTold) = some (.arr [.int st.t0, .int st.t1]) := A.at _ A.itold
theorem Lay.Hbox (st : St) : A.H st (A.addr sBox) = some (.arr [.ref st.bl, .int st.bk]) := A.at _ A.ibox
theorem Lay.Hrows (st : St) {i : Nat} (h : i < 3) : A.H st (A.addr (sRows i)) = some (.td (st.rows i)) := A.at _ (A.irows i h)
theorem Lay.Howed (st : St) {i j : Nat} (h : i < 3) (h' : j < A.deg i) : A.H st (A.addr (sOwed i j)) = some (.td (st.owed i j)) := A.at _ (A.iowed i h j h')
-- the same beside one object more
theorem Lay.beside (st : St) {t : Addr} {o : AO} (ht : A.H st t = none) {b : Addr} {ao : AO} (h : A.H st b = some ao) : ((A.H st).put t o) b = some ao := by
  rw [HM.put_ne]; exact h
  intro e; rw [e, ht] at h; cases h
theorem Lay.Hoff (st st' : St) {t : Addr} (ht : A.H st t = none) : A.H st' t = none := A.off _ _ ht
-- stores
noncomputable def St.setRow (st : St) (i : Nat) (m : Mp) : St := { st with rows := fun a => if a = i then m else st.rows a }
noncomputable def St.setOwed (st : St) (i j : Nat) (m : Mp) : St := { st with owed := fun a b => if a = i ∧ b = j then m else st.owed a b }
theorem Lay.putEq (st st' : St) {σ : Slot} (h : σ ∈ A.slots) {o : AO} (ho : o = A.cont st' σ) (k : ∀ τ ∈ A.slots, τ ≠ σ → A.cont st τ = A.cont st' τ) : (A.H st).put (A.addr σ) o = A.H st' := by
  unfold Lay.H
  rw [A.put _ h]
  refine A.congr fun τ hτ => ?_
  by_cases e : τ = σ
  · subst e; rw [upd_self, ho]
  · rw [upd_ne e]; exact k τ hτ e
theorem Lay.putRow (st : St) {i : Nat} (h : i < 3) (m : Mp) : (A.H st).put (A.addr (sRows i)) (.td m) = A.H (st.setRow i m) := by
  refine A.putEq _ _ (A.irows i h) (by simp [Lay.cont, St.setRow]) fun τ hτ ne => ?_
  rcases A.hsl τ hτ with rfl | rfl | rfl | rfl | ⟨a, _, rfl⟩ | ⟨a, b, _, _, rfl⟩ <;> try rfl
  have : a ≠ i := fun e => ne (by rw [e])
  simp [Lay.cont, St.setRow, this]
theorem Lay.putOwed (st : St) {i j : Nat} (h : i < 3) (h' : j < A.deg i) (m : Mp) : (A.H st).put (A.addr (sOwed i j)) (.td m) = A.H (st.setOwed i j m) := by
  refine A.putEq _ _ (A.iowed i h j h') (by simp [Lay.cont, St.setOwed]) fun τ hτ ne => ?_
  rcases A.hsl τ hτ with rfl | rfl | rfl | rfl | ⟨a, _, rfl⟩ | ⟨a, b, _, _, rfl⟩ <;> try rfl
  have : ¬ (a = i ∧ b = j) := fun ⟨e1, e2⟩ => ne (by rw [e1, e2])
  simp [Lay.cont, St.setOwed, this]
theorem Lay.putWire (st : St) (l : List AV) : (A.H st).put (A.addr sWire) (.lst l) = A.H { st with wire := l } := by
  refine A.putEq _ _ A.iwire rfl fun τ hτ ne => ?_
  rcases A.hsl τ hτ with rfl | rfl | rfl | rfl | ⟨a, _, rfl⟩ | ⟨a, b, _, _, rfl⟩ <;> first | rfl | exact absurd rfl ne
theorem Lay.putTold (st : St) (x y : Int) : (A.H st).put (A.addr sTold) (.arr [.int x, .int y]) = A.H { st with t0 := x, t1 := y } := by
  refine A.putEq _ _ A.itold rfl fun τ hτ ne => ?_
  rcases A.hsl τ hτ with rfl | rfl | rfl | rfl | ⟨a, _, rfl⟩ | ⟨a, b, _, _, rfl⟩ <;> first | rfl | exact absurd rfl ne
theorem Lay.putBox (st : St) (x : Int) : (A.H st).put (A.addr sBox) (.arr [.ref st.bl, .int x]) = A.H { st with bk := x } := by
  refine A.putEq _ _ A.ibox rfl fun τ hτ ne => ?_
  rcases A.hsl τ hτ with rfl | rfl | rfl | rfl | ⟨a, _, rfl⟩ | ⟨a, b, _, _, rfl⟩ <;> first | rfl | exact absurd rfl ne
theorem Lay.putNet (st : St) (x : Int) (c : AV) : (A.H st).put (A.addr sNet) (.sd [("now", .int x), ("wire", .ref (A.addr sWire)), ("nodes", .ref A.nodes), ("told", .ref (A.addr sTold)), ("came", c)]) = A.H { st with now := x, came := c } := by
  refine A.putEq _ _ A.inet rfl fun τ hτ ne => ?_
  rcases A.hsl τ hτ with rfl | rfl | rfl | rfl | ⟨a, _, rfl⟩ | ⟨a, b, _, _, rfl⟩ <;> first | rfl | exact absurd rfl ne
theorem Lay.HCongr {st st' : St} (h1 : st.now = st'.now) (h2 : st.wire = st'.wire) (h3 : st.t0 = st'.t0) (h4 : st.t1 = st'.t1) (h5 : st.came = st'.came) (h6 : st.bl = st'.bl) (h7 : st.bk = st'.bk) (h8 : ∀ i < 3, st.rows i = st'.rows i) (h9 : ∀ i < 3, ∀ j < A.deg i, st.owed i j = st'.owed i j) : A.H st = A.H st' := by
  refine A.congr fun τ hτ => ?_
  rcases A.hsl τ hτ with rfl | rfl | rfl | rfl | ⟨a, ha, rfl⟩ | ⟨a, b, ha, hb, rfl⟩
  · simp only [Lay.cont, h1, h5]
  · simp only [Lay.cont, h2]
  · simp only [Lay.cont, h3, h4]
  · simp only [Lay.cont, h6, h7]
  · simp only [Lay.cont, h8 a ha]
  · simp only [Lay.cont, h9 a ha b hb]
/-- a put beside one object more -/
theorem Lay.put3 (st st' : St) {t : Addr} {to : AO} (ht : A.H st t = none) {b : Addr} {o ob : AO} (hb : A.H st b = some ob) (h : (A.H st).put b o = A.H st') : ((A.H st).put t to).put b o = (A.H st').put t to := by
  have ne : b ≠ t := fun e => by rw [e, ht] at hb; cases hb
  rw [put_comm ne, h]
end

-- TFl
section
variable {w : World} {X : Cx PW w}
variable {A : Lay X}
noncomputable def St.floods (i : Nat) (skip : Option Nat) (p : Int) (lsa : AV) : List Nat → St → St
  | [], st => st
  | j :: js, st => St.floods i skip p lsa js (if skip = some j then st else st.setOwed i j (storeA (st.owed i j) [1, 7, p + 1] lsa))
noncomputable def numsOf (skip : Option Nat) (js : List Nat) : List AV := (js.filter fun j => decide (skip ≠ some j)).map fun (j : Nat) => .int j
theorem storeA_len {κ : Type} [DecidableEq κ] (m : List (κ × AV)) (k : κ) (v : AV) : (storeA m k v).length ≤ m.length + 1 := by
  induction m with
  | nil => simp [storeA]
  | cons x m ih =>
    obtain ⟨k', v'⟩ := x
    unfold storeA
    split <;> simp <;> omega
section
variable {nm : Str} {sc : Scope} {L fa : Addr} {cd : Value} {n : Nat}
noncomputable def LpI (I : List Nat → List (Str × AV) → HM → Prop) (js : List Nat) (f : AF) (ρ : List (Str × AV)) (H : HM) : Prop := (f = .next ∨ f = .cont) ∧ I js ρ H
theorem lp_inv {x : Str} {p : Pos} {body : List Stmt} {Q : AF → List (Str × AV) → HM → Prop} (I : List Nat → List (Str × AV) → HM → Prop) (f : Nat → AV)
    (step : ∀ j js ρ H, I (j :: js) ρ H → EXS X n nm sc L fa cd ((x, f j) :: ρ) H body (LpI I js)) (fin : ∀ ρ H, I [] ρ H → Q .next ρ H)
    (hl : (envOf nm sc L fa cd).kindOf x = some .local := by rfl) (hk : sc.kind = .function := by rfl) : ∀ js ρ H, I js ρ H → Lp X n nm sc L fa cd (.Name x p) body (js.map f) ρ H Q
  | [], ρ, H, h => lp_nil (fin ρ H h)
  | j :: js, ρ, H, h => lp_name ((step j js ρ H h).mono fun g ρ' H' ⟨q, h'⟩ => by
      rcases q with rfl | rfl
      · exact lpc_next (lp_inv I f step fin hl hk js ρ' H' h')
      · exact lpc_cont (lp_inv I f step fin hl hk js ρ' H' h')) hl hk
end
structure FI (A : Lay X) (i : Nat) (skip : Option Nat) (p : Int) (lsa came : AV) (st : St) (t : Addr) (all : List Nat) (js : List Nat) (ρ : List (Str × AV)) (H : HM) : Prop where
  s : ∃ st' ys, H = (A.H st').put t (.lst ys) ∧ st'.floods i skip p lsa js = st.floods i skip p lsa all ∧ ys ++ numsOf skip js = numsOf skip all ∧ (∀ a b, (st'.owed a b).length + js.length ≤ 950)
  js : ∀ j ∈ js, j < A.deg i
  len : (numsOf skip all).length ≤ 1000
  found : ρ.lookup (Str.ofString "found") = some (.ref t)
  lsa : ρ.lookup (Str.ofString "lsa") = some lsa
  area : ρ.lookup (Str.ofString "area") = some (.int 0)
  came : ρ.lookup (Str.ofString "came") = some came
theorem pe_conv {nm : Str} {sc : Scope} {L fa : Addr} {cd : Value} {n : Nat} {ρ : List (Str × AV)} {H : HM} {e : Expr} {a b : AV} (h : PE X n nm sc L fa cd ρ H e a) (q : a = b) : PE X n nm sc L fa cd ρ H e b := q ▸ h
theorem c_flooded0 (hK : IsK X) {i : Nat} {p n a : Int} {st : St} (hi : i < 3) (hz : ∀ a b, (st.owed a b).length ≤ 900) : CL X 80 (.ref 235) [lsaV a p n, .int 0, .ref (A.fl i), .none] (A.H st) fun b H' => ∃ t, b = .ref t ∧ A.H st t = none ∧ H' = (A.H (st.floods i none p (lsaV a p n) (List.range (A.deg i)))).put t (.lst (numsOf none (List.range (A.deg i)))) := by
  have hd := A.hdeg i hi
  refine cl_def (n := 78) (fn_of hK (f := 235) rfl rfl rfl) (names := ["lsa", "area", "interfaces", "came"]) (by l_fit) (by decide) (by decide) fun L => ?_
  refine' exs_nmE ?a1
  refine ev_list (evl_nil ⟨Nat.zero_le _, fun t ht => ?_⟩)
  refine' exs_for ?a2 (A.hfl i hi) ?a3
  case a2 => k_mem
  case a3 =>
  refine lp_inv (FI A i none p (lsaV a p n) .none st t (List.range (A.deg i))) (fun j => .ref (A.fc i j)) ?_ ?_ rfl rfl _ _ _ ⟨⟨st, [], rfl, rfl, rfl, fun a b => by have := hz a b; rcases hd with h | h <;> rw [h] <;> simp <;> omega⟩, fun j hj => List.mem_range.mp hj, by rcases hd with h | h <;> rw [h] <;> decide, rfl, rfl, rfl, rfl⟩
  · rintro j js ρ H ⟨⟨st', ys, rfl, h1, h2, h3⟩, h4, h5, f1, f2, f3, f4⟩
    have hj := h4 j (.head _)
    have ht' : A.H st' t = none := A.Hoff st st' ht
    have hf : At X ((A.H st').put t (.lst ys)) (A.fc i j) (faceD j (A.nl i j)) := .inr (A.hfc i hi j hj)
    have ho : ((A.H st').put t (.lst ys)) (A.addr (sOwed i j)) = some (.td (st'.owed i j)) := A.beside st' ht' (A.Howed st' hi hj)
    have hlen : (numsOf none (j :: js)) = .int j :: numsOf none js := by simp [numsOf]
    have hys : ys.length ≤ 1000 := by rw [← h2] at h5; simp at h5; omega
    k_updF
    · intro c; cases c
    intro c
    k_updF
    refine' exs_nmE ?b1
    refine' ev_call ?b2 ?b3 ?b4 ?b5
    case b3 => k_same
    case b2 => exact fn_of hK rfl rfl rfl
    case b4 => k_all
    refine ((c_owe hK hf (A.hnl i hi j hj) (A.hmd i hi j hj) ho (by have := h3 i j; omega)).less (by decide)).mono fun b H' pq0 => ?_
    obtain ⟨e1, e2⟩ := pq0
    have c' : (((A.way i j : Int) + 1) != 0) = true := by simpa using (by omega : ((A.way i j : Int) + 1) ≠ 0)
    rw [c'] at e1
    rw [c', if_pos rfl, A.put3 _ _ ht' (A.Howed st' hi hj) (A.putOwed st' hi hj _)] at e2
    subst e1 e2
    have ht2 := A.Hoff st' (st'.setOwed i j (storeA (st'.owed i j) [1, 7, p + 1] (lsaV a p n))) ht'
    have hf2 : At X ((A.H (st'.setOwed i j (storeA (st'.owed i j) [1, 7, p + 1] (lsaV a p n)))).put t (.lst ys)) (A.fc i j) (faceD j (A.nl i j)) := .inr (A.hfc i hi j hj)
    clear hf ho
    refine' exs_if0 (c := true) ?d1 ?d2 ?d3
    case d3 => intro c; cases c
    case d1 => 
      refine pt_and (c := true) (d := true) ?_ fun _ => pt_and (c := true) (d := true) ?_ fun _ => tv_and_nil
      · k_memK
      · k_memK
    case d2 =>
    intro _
    refine' exs_ex ?g1
    refine' ev_meth ?v1 ?v2 ?v3 F.plainAttrs_list F.slot_list_append F.type_list_append ?v4
    case v1 => k_mem
    case v2 => k_all
    case v3 => exact ty_lst (.inl (HM.put_self ..))
    refine (cl_append (HM.put_self ..) (by omega)).mono fun b H' pq0 => ?_
    obtain ⟨_, e⟩ := pq0
    subst e
    have hpp : ∀ (H : HM) (x y : AO), (H.put t x).put t y = H.put t y := fun H x y => by funext b; unfold HM.put; split <;> rfl
    rw [hpp]
    refine exs_0 (cont_next (exs_0 ⟨.inl rfl, ⟨_, _, rfl, ?_, ?_, fun x y => ?_⟩, fun k hk => h4 k (.tail _ hk), h5, f1, f2, f3, f4⟩))
    · rw [← h1]; rfl
    · rw [← h2, hlen]; simp
    · have h3' := h3 x y
      have h3'' := h3 i j
      have := storeA_len (st'.owed i j) [1, 7, p + 1] (lsaV a p n)
      simp only [St.setOwed, List.length_cons] at h3' h3'' ⊢
      split
      · rename_i e; obtain ⟨rfl, rfl⟩ := e; omega
      · omega
  · rintro ρ H ⟨⟨st', ys, rfl, h1, h2, h3⟩, h4, h5, f1, f2, f3, f4⟩
    refine cont_next ?_
    refine' exs_ret ?q1 ?q2
    case q1 => k_mem
    refine ⟨t, rfl, ht, ?_⟩
    simp only [St.floods] at h1
    have : ys = numsOf none (List.range (A.deg i)) := by rw [← h2]; simp [numsOf]
    rw [h1, this]
theorem c_flooded1 (hK : IsK X) {i j0 : Nat} {p n a : Int} {st : St} (hi : i < 3) (hj0 : j0 < A.deg i) (hz : ∀ a b, (st.owed a b).length ≤ 900) : CL X 80 (.ref 235) [lsaV a p n, .int 0, .ref (A.fl i), .tup [.int j0, .int (A.way i j0 + 1)]] (A.H st) fun b H' => ∃ t, b = .ref t ∧ A.H st t = none ∧ H' = (A.H (st.floods i (some j0) p (lsaV a p n) (List.range (A.deg i)))).put t (.lst (numsOf (some j0) (List.range (A.deg i)))) := by
  have hd := A.hdeg i hi
  refine cl_def (n := 78) (fn_of hK (f := 235) rfl rfl rfl) (names := ["lsa", "area", "interfaces", "came"]) (by l_fit) (by decide) (by decide) fun L => ?_
  refine' exs_nmE ?a1
  refine ev_list (evl_nil ⟨Nat.zero_le _, fun t ht => ?_⟩)
  refine' exs_for ?a2 (A.hfl i hi) ?a3
  case a2 => k_mem
  case a3 =>
  refine lp_inv (FI A i (some j0) p (lsaV a p n) (.tup [.int j0, .int (A.way i j0 + 1)]) st t (List.range (A.deg i))) (fun j => .ref (A.fc i j)) ?_ ?_ rfl rfl _ _ _ ⟨⟨st, [], rfl, rfl, rfl, fun a b => by have := hz a b; rcases hd with h | h <;> rw [h] <;> simp <;> omega⟩, fun j hj => List.mem_range.mp hj, Nat.le_trans (by simp only [numsOf, List.length_map]; exact List.length_filter_le _ _) (by rcases hd with h | h <;> rw [h] <;> decide), rfl, rfl, rfl, rfl⟩
  · rintro j js ρ H ⟨⟨st', ys, rfl, h1, h2, h3⟩, h4, h5, f1, f2, f3, f4⟩
    have hj := h4 j (.head _)
    have ht' : A.H st' t = none := A.Hoff st st' ht
    have hf : At X ((A.H st').put t (.lst ys)) (A.fc i j) (faceD j (A.nl i j)) := .inr (A.hfc i hi j hj)
    have ho : ((A.H st').put t (.lst ys)) (A.addr (sOwed i j)) = some (.td (st'.owed i j)) := A.beside st' ht' (A.Howed st' hi hj)
    have hys : ys.length ≤ 1000 := by
      have := congrArg List.length h2
      simp only [List.length_append] at this
      omega
    k_updF
    · intro c; cases c
    intro c
    by_cases hjj : j = j0
    · subst hjj
      refine' exs_nm (a := .bool true) ?s1 ?s2
      case s1 =>
        refine' pe_conv ?s3 ?s4
        case s3 => k_mem
        case s4 => simp
      refine' exs_nmE ?t1
      refine' ev_call ?t2 ?t3 ?t4 ?t5
      case t3 => k_same
      case t2 => exact fn_of hK rfl rfl rfl
      case t4 => k_all
      refine ((c_owe hK hf (A.hnl i hi j hj) (A.hmd i hi j hj) ho (by have := h3 i j; omega)).less (by decide)).mono fun b H' pq0 => ?_
      obtain ⟨e1, e2⟩ := pq0
      have c' : (((A.way i j : Int) + 1) != ((A.way i j : Int) + 1)) = false := by simp
      rw [c'] at e1
      rw [c', if_neg Bool.false_ne_true] at e2
      subst e1 e2
      refine' exs_if0 (c := false) ?t6 ?t7 ?t8
      case t7 => intro c; cases c
      case t6 => refine pt_and_f ?_; k_memK
      case t8 =>
      intro _
      refine exs_0 ⟨.inl rfl, ⟨_, _, rfl, ?_, ?_, fun x y => ?_⟩, fun k hk => h4 k (.tail _ hk), h5, f1, f2, f3, f4⟩
      · rw [← h1]; simp [St.floods]
      · rw [← h2]; simp [numsOf]
      · have h3' := h3 x y
        simp only [List.length_cons] at h3' ⊢; omega
    · have hlen : numsOf (some j0) (j :: js) = .int j :: numsOf (some j0) js := by simp [numsOf, Ne.symm hjj]
      refine' exs_nm (a := .bool false) ?r1 ?r2
      case r1 =>
        refine' pe_conv ?r3 ?r4
        case r3 => k_mem
        case r4 => have : ((j0 : Int) == (j : Int)) = false := by simp; omega
                   simp [this]
      refine' exs_nmE ?b1
      refine' ev_call ?b2 ?b3 ?b4 ?b5
      case b3 => k_same
      case b2 => exact fn_of hK rfl rfl rfl
      case b4 => k_all
      refine ((c_owe hK hf (A.hnl i hi j hj) (A.hmd i hi j hj) ho (by have := h3 i j; omega)).less (by decide)).mono fun b H' pq0 => ?_
      obtain ⟨e1, e2⟩ := pq0
      have c' : (((A.way i j : Int) + 1) != 0) = true := by simpa using (by omega : ((A.way i j : Int) + 1) ≠ 0)
      rw [c'] at e1
      rw [c', if_pos rfl, A.put3 _ _ ht' (A.Howed st' hi hj) (A.putOwed st' hi hj _)] at e2
      subst e1 e2
      have ht2 := A.Hoff st' (st'.setOwed i j (storeA (st'.owed i j) [1, 7, p + 1] (lsaV a p n))) ht'
      have hf2 : At X ((A.H (st'.setOwed i j (storeA (st'.owed i j) [1, 7, p + 1] (lsaV a p n)))).put t (.lst ys)) (A.fc i j) (faceD j (A.nl i j)) := .inr (A.hfc i hi j hj)
      clear hf ho
      refine' exs_if0 (c := true) ?d1 ?d2 ?d3
      case d3 => intro c; cases c
      case d1 => 
        refine pt_and (c := true) (d := true) ?_ fun _ => pt_and (c := true) (d := true) ?_ fun _ => tv_and_nil
        · k_memK
        · k_memK
      case d2 =>
      intro _
      refine' exs_ex ?g1
      refine' ev_meth ?v1 ?v2 ?v3 F.plainAttrs_list F.slot_list_append F.type_list_append ?v4
      case v1 => k_mem
      case v2 => k_all
      case v3 => exact ty_lst (.inl (HM.put_self ..))
      refine (cl_append (HM.put_self ..) (by omega)).mono fun b H' pq0 => ?_
      obtain ⟨_, e⟩ := pq0
      subst e
      have hpp : ∀ (H : HM) (x y : AO), (H.put t x).put t y = H.put t y := fun H x y => by funext b; unfold HM.put; split <;> rfl
      rw [hpp]
      refine exs_0 (cont_next (exs_0 ⟨.inl rfl, ⟨_, _, rfl, ?_, ?_, fun x y => ?_⟩, fun k hk => h4 k (.tail _ hk), h5, f1, f2, f3, f4⟩))
      · rw [← h1]; simp [St.floods, Ne.symm hjj]
      · rw [← h2, hlen]; simp
      · have h3' := h3 x y
        have h3'' := h3 i j
        have := storeA_len (st'.owed i j) [1, 7, p + 1] (lsaV a p n)
        simp only [St.setOwed, List.length_cons] at h3' h3'' ⊢
        split
        · rename_i e; obtain ⟨rfl, rfl⟩ := e; omega
        · omega
  · rintro ρ H ⟨⟨st', ys, rfl, h1, h2, h3⟩, h4, h5, f1, f2, f3, f4⟩
    refine cont_next ?_
    refine' exs_ret ?q1 ?q2
    case q1 => k_mem
    refine ⟨t, rfl, ht, ?_⟩
    simp only [St.floods] at h1
    have : ys = numsOf (some j0) (List.range (A.deg i)) := by rw [← h2]; simp [numsOf]
    rw [h1, this]
end

-- TFg
section
variable {w : World} {X : Cx PW w}
variable {A : Lay X}
noncomputable def St.forgets (i : Nat) (k : Int) : List Nat → St → St
  | [], st => st
  | j :: js, st => St.forgets i k js (st.setOwed i j (dropA (st.owed i j) [1, 7, k]))
theorem dropA_len {κ : Type} [DecidableEq κ] (m : List (κ × AV)) (k : κ) : (dropA m k).length ≤ m.length := by
  induction m with
  | nil => simp [dropA]
  | cons x m ih =>
    obtain ⟨k', v'⟩ := x
    unfold dropA
    split <;> simp <;> omega
structure GI (A : Lay X) (i : Nat) (k : Int) (st : St) (all : List Nat) (js : List Nat) (ρ : List (Str × AV)) (H : HM) : Prop where
  s : ∃ st', H = A.H st' ∧ st'.forgets i k js = st.forgets i k all ∧ (∀ a b, (st'.owed a b).length ≤ 950)
  js : ∀ j ∈ js, j < A.deg i
  key : ρ.lookup (Str.ofString "key") = some (.tup [.int 1, .int 7, .int k])
theorem c_forget (hK : IsK X) {i : Nat} {k : Int} {st : St} (hi : i < 3) (hz : ∀ a b, (st.owed a b).length ≤ 900) : CL X 60 (.ref 263) [.ref (A.fl i), .tup [.int 1, .int 7, .int k]] (A.H st) fun _ H' => H' = A.H (st.forgets i k (List.range (A.deg i))) := by
  refine cl_def (n := 58) (fn_of hK (f := 263) rfl rfl rfl) (names := ["interfaces", "key"]) (by l_fit) (by decide) (by decide) fun L => ?_
  refine' exs_for ?a2 (A.hfl i hi) ?a3
  case a2 => k_mem
  case a3 =>
  refine lp_inv (GI A i k st (List.range (A.deg i))) (fun j => .ref (A.fc i j)) ?_ ?_ rfl rfl _ _ _ ⟨⟨st, rfl, rfl, fun a b => by have := hz a b; omega⟩, fun j hj => List.mem_range.mp hj, rfl⟩
  · rintro j js ρ H ⟨⟨st', rfl, h1, h3⟩, h4, f1⟩
    have hj := h4 j (.head _)
    have hf : At X (A.H st') (A.fc i j) (faceD j (A.nl i j)) := .inr (A.hfc i hi j hj)
    have hm : At X (A.H st') (A.md i j) (mateD (A.way i j + 1) (A.rq i j) (A.addr (sOwed i j))) := .inr (A.hmd i hi j hj)
    have ho := A.Howed st' hi hj
    refine' exs_for ?b1 (A.hnl i hi j hj) ?b2
    case b1 => k_mem
    case b2 =>
    refine lp_name ?_
    refine' exs_ex ?b3
    refine' ev_meth ?v1 ?v2 ?v3 F.plainAttrs_dict F.slot_dict_pop F.type_dict_pop ?v4
    case v1 => k_mem
    case v2 => k_all
    case v3 => exact ty_td (.inl ho)
    refine (cl_dpop3 ho (by have := h3 i j; omega)).mono fun b H' e => ?_
    rw [A.putOwed st' hi hj] at e
    subst e
    refine exs_0 (lpc_next (lp_nil (cont_next (exs_0 ⟨.inl rfl, ⟨_, rfl, ?_, fun x y => ?_⟩, fun k hk => h4 k (.tail _ hk), f1⟩))))
    · rw [← h1]; rfl
    · have h3' := h3 x y
      have h3'' := h3 i j
      have := dropA_len (st'.owed i j) [1, 7, k]
      simp only [St.setOwed]
      split <;> omega
  · rintro ρ H ⟨⟨st', rfl, h1, h3⟩, h4, f1⟩
    refine cont_next (exs_0 ?_)
    simp only [St.forgets] at h1
    rw [h1]
structure TI (A : Lay X) (i : Nat) (H₀ : HM) (js : List Nat) (ρ : List (Str × AV)) (H : HM) : Prop where
  s : H = H₀
  js : ∀ j ∈ js, j < A.deg i
theorem c_talking (hK : IsK X) {i : Nat} {H₀ : HM} (hi : i < 3) : PC X 60 (.ref 270) [.ref (A.fl i)] H₀ (.bool false) := by
  refine cl_def (n := 58) (fn_of hK (f := 270) rfl rfl rfl) (names := ["interfaces"]) (by l_fit) (by decide) (by decide) fun L => ?_
  refine' exs_for ?a2 (A.hfl i hi) ?a3
  case a2 => k_mem
  case a3 =>
  refine lp_inv (TI A i H₀) (fun j => .ref (A.fc i j)) ?_ ?_ rfl rfl _ _ _ ⟨rfl, fun j hj => List.mem_range.mp hj⟩
  · rintro j js ρ H ⟨rfl, h4⟩
    have hj := h4 j (.head _)
    have hf : At X H (A.fc i j) (faceD j (A.nl i j)) := .inr (A.hfc i hi j hj)
    have hm : At X H (A.md i j) (mateD (A.way i j + 1) (A.rq i j) (A.addr (sOwed i j))) := .inr (A.hmd i hi j hj)
    refine' exs_for ?b1 (A.hnl i hi j hj) ?b2
    case b1 => k_mem
    case b2 =>
    refine lp_name ?_
    refine' exs_if0 ?c1 ?c2 ?c3
    case c1 => k_memK
    case c2 => intro c; exact nomatch (show false = true from c)
    intro _
    exact exs_0 (lpc_next (lp_nil (cont_next (exs_0 ⟨.inl rfl, rfl, fun k hk => h4 k (.tail _ hk)⟩))))
  · rintro ρ H ⟨rfl, h4⟩
    refine cont_next ?_
    k_updF
end

local macro_rules | `(tactic| k_sub) => `(tactic| focus first
  | exact CL.less (c_talking (by assumption) (by assumption)) (by decide)
  )

-- TVd
section
variable {w : World} {X : Cx PW w}

theorem pt_conv {nm : Str} {sc : Scope} {L fa : Addr} {cd : Value} {n : Nat} {ρ : List (Str × AV)} {H : HM} {e : Expr} {a b : Bool} (h : PT X n nm sc L fa cd ρ H e a) (q : a = b) : PT X n nm sc L fa cd ρ H e b := q ▸ h
noncomputable abbrev factsD (ow : Bool) : AO := .sd [("stub", .bool false), ("talking", .bool false), ("asked", .bool false), ("owed", .bool ow), ("flooded", .bool true), ("told", .none)]
theorem c_verdict0 (hK : IsK X) {fd : Addr} {ow : Bool} {a p n now : Int} {H : HM} (hf : At X H fd (factsD ow)) (ha : a ≠ 3600) : PC X 30 (.ref 200) [headV a p n, .none, .int now, .ref fd] H (.tup [.str "take"]) := by
  refine cl_def (n := 28) (fn_of hK (f := 200) rfl rfl rfl) (names := ["head", "own", "now", "facts"]) (by l_fit) (by decide) (by decide) fun L => ?_
  k_updF
  k_updF
  · intro c; cases c
  intro c
  k_updF
  · intro c
    refine' exs_ret (a := .tup [.str "take"]) ?u1 ⟨rfl, rfl⟩
    refine' pe_if_f ?u2 ?u3
    case u3 => k_mem
    refine' pt_and_f (pt_conv ?u4 ?u5)
    case u4 => k_memK
    simpa using ha
  · intro c; cases c
noncomputable def verdictV (g : Int) (ow : Bool) (fresh : Bool) : AV := if 0 < g then (if fresh then .tup [.str "early"] else .tup [.str "take"]) else if g = 0 then .tup [.str "same", .bool ow] else .tup [.str "send back"]
theorem c_verdict1 (hK : IsK X) {fd : Addr} {ow : Bool} {a p n b q k now t : Int} {H : HM} (hf : At X H fd (factsD ow)) (hb : b ≠ 3600) : PC X 30 (.ref 200) [headV a p n, .tup [headV b q k, .int t], .int now, .ref fd] H (verdictV (newer a n 3 b k 3) ow (decide (now - t < 1))) := by
  refine cl_def (n := 28) (fn_of hK (f := 200) rfl rfl rfl) (names := ["head", "own", "now", "facts"]) (by l_fit) (by decide) (by decide) fun L => ?_
  k_updF
  k_updF
  · intro c; cases c
  intro c
  k_updF
  · intro c; cases c
  intro c
  k_updF
  k_updF
  · intro c
    refine' exs_ret ?w01 ?w02
    case w01 => k_mem
    have h : 0 < newer a n 3 b k 3 := by simpa using c
    refine cont_ret ⟨?_, rfl⟩
    unfold verdictV
    rw [if_pos h]
    simp
  intro c1
  have h1 : ¬ 0 < newer a n 3 b k 3 := by simpa using c1
  k_updF
  · intro c; cases c
  intro c
  k_updF
  · intro c2
    have h2 : newer a n 3 b k 3 = 0 := by simpa using c2
    refine' exs_ret ?w11 ?w12
    case w11 => k_mem
    refine cont_ret ⟨?_, rfl⟩
    unfold verdictV
    rw [if_neg h1, if_pos h2]
  intro c2
  have h2 : newer a n 3 b k 3 ≠ 0 := by simpa using c2
  refine' exs_if0 (c := false) ?v1 ?v2 ?v3
  case v2 => intro c; cases c
  case v1 =>
    refine' pt_and_f (pt_conv ?u6 ?u7)
    case u6 => k_memK
    simpa using hb
  intro _
  k_updF
  · intro c; cases c
  intro c
  k_updF
  refine ⟨?_, rfl⟩
  unfold verdictV
  rw [if_neg h1, if_neg h2]
theorem c_answer (hK : IsK X) {f nl : Addr} {j s : Int} {ev : Str} {H : HM} (hf : At X H f (faceD j nl)) : (ev = "back" → PC X 30 (.ref 249) [.str ev, .ref f, .int s] H (.str "none")) ∧ (ev = "double" → PC X 30 (.ref 249) [.str ev, .ref f, .int s] H (.str "direct")) ∧ (ev = "new" → PC X 30 (.ref 249) [.str ev, .ref f, .int s] H (.str "delayed")) ∧ (ev = "implied" → PC X 30 (.ref 249) [.str ev, .ref f, .int s] H (.str "none")) := by
  refine ⟨fun e => ?_, fun e => ?_, fun e => ?_, fun e => ?_⟩ <;> subst e <;> refine cl_def (n := 28) (fn_of hK (f := 249) rfl rfl rfl) (names := ["event", "interface", "sender"]) (by l_fit) (by decide) (by decide) fun L => ?_
  · k_updF
    · intro c; exact absurd c (by decide)
    intro c
    k_updF
    · intro c; k_updF
    · intro c; exact absurd c (by decide)
  · k_updF
    · intro c; k_updF
    · intro c; exact absurd c (by decide)
  · k_updF
    · intro c; exact absurd c (by decide)
    intro c
    k_updF
    · intro c; exact absurd c (by decide)
    intro c
    k_updF
    · intro c; exact absurd c (by decide)
    intro c
    refine' exs_ret (a := .str "delayed") ?y1 ⟨rfl, rfl⟩
    refine' pe_if_t ?z02 ?z03
    case z03 => k_mem
    refine' pt_conv ?z04 ?z05
    case z04 => k_memK
    decide
  · k_updF
    · intro c; exact absurd c (by decide)
    intro c
    k_updF
    · intro c; exact absurd c (by decide)
    intro c
    k_updF
    · intro c; exact absurd c (by decide)
    intro c
    refine' exs_ret (a := .str "none") ?z01 ⟨rfl, rfl⟩
    refine' pe_if_f ?z12 ?z13
    case z13 => k_mem
    refine' pt_conv ?z14 ?z15
    case z14 => k_memK
    decide
end

-- TXb
section
variable {w : World} {X : Cx PW w}

theorem intsAre_of {h : Heap} : ∀ {vs : List Value} {ks : List Int}, IsL h vs (ks.map .int) → IntsAre vs ks
  | _, [], l => by cases l; exact .nil
  | _, k :: ks, l => by
    cases l with
    | cons a b => cases a; exact .cons _ _ (intsAre_of b)
theorem cl_update {d o : Addr} {m more : List (Str × AV)} {n : Nat} {H : HM} (hd : H d = some (.sd m)) (ho : H o = some (.sd more)) (hne : d ≠ o) (hz : m.length + more.length ≤ 1000) :
    CL X (n + 1) (.builtin "dict.update") [.ref d, .ref o] H fun b H' => H' = H.put d (.sd (mergeA m more)) := fun A s vs ok G j => by
  obtain ⟨_, _, rfl, i1, i2⟩ := j.two
  apply i1.ref_elim; apply i2.ref_elim
  obtain ⟨kvs, hd1, hm⟩ := (G.ob d _ hd).1
  obtain ⟨kvo, hd2, hmo⟩ := (G.ob o _ ho).1
  have hoS : (o == sysModules) = false := by
    obtain ⟨x, hx⟩ := X.sm
    cases q : o == sysModules with
    | false => rfl
    | true => have z := (G.ob o _ ho).2; rw [beq_iff_eq.mp q, hx] at z; cases z
  refine call_meetsIn F.slot_dict_update hd1.typeIs F.entry_dict_update (F.args_dict_update_2 _ _) (meets_dict_update (strKind _ w) d o hne hoS) ⟨kvs, kvo, hd1, hd2, by rw [hm.length, hmo.length, sizeLine_eq]; omega, fun h' hd' _ hs' => ?_⟩
  have tk := tk_of (L := d) (G.ob d _ hd).1 hs'
  obtain ⟨g, x⟩ := G.update (s' := { s with heap := h' }) (ao := .sd (mergeA m more)) ⟨_, hd⟩ hs' ⟨_, hd', SdIs.merge (hmo.mono tk) (hm.mono tk) (by obtain ⟨_, _, _, _, _, _, _, hn⟩ := hd1; exact hn.2)⟩ rfl rfl
  exact ⟨.none, _, .none, g, x, rfl⟩
theorem lay_ints (ks : List Int) (hz : ks.length ≤ 1000) : PyData.layable0 (.list (ks.map .int)) = true ∨ True := .inr trivial
section
variable {nm : Str} {sc : Scope} {L fa : Addr} {cd : Value} {n : Nat} {ρ : List (Str × AV)} {H : HM}
theorem inlst_sound {a : Addr} {ks : List Int} {k : Int} {A : Around} {s : Shared} {v u : Value} (ha : At X H a (.lst (ks.map .int))) (G : GL X L ρ H s) (i : Is s.heap v (.int k)) (j : Is s.heap u (.ref a)) :
    wpAny (model PW w) A (compareOp .In v u) (PostL X L Is ρ H s fun x ρ' H' => ρ' = ρ ∧ x = .bool (ks.any (· == k)) ∧ H' = H) NoE s := by
  obtain ⟨t, rfl⟩ := i.int_inv
  cases j
  obtain ⟨items, c, e, l⟩ := G.at ha
  exact in_list_ints (vs := items.toList) ⟨_, e, rfl, _, rfl⟩ (intsAre_of l) (here' G (.bool _) ⟨rfl, rfl, rfl⟩)
theorem pt_inlst {l r : Expr} {pos : Pos} {a : Addr} {ks : List Int} {k : Int} (hl : PE X (n + 1) nm sc L fa cd ρ H l (.int k)) (hr : PE X (n + 1) nm sc L fa cd ρ H r (.ref a)) (ha : At X H a (.lst (ks.map .int))) (hm : behindInMarks .In r = false := by with_unfolding_all rfl) :
    PT X (n + 1) nm sc L fa cd ρ H (.Compare l [.In] [r] pos) (ks.any (· == k)) := fun A s ok G =>
  wpAny_isTrue_Compare1 (stepP (hl A s ok G) fun v s1 i1 G1 x1 => by
    refine stepP (hr A s1 ok G1) fun u s2 i2 G2 x2 => ?_
    refine stepP (inlst_sound ha G2 (i1.mono x2.tup) i2) fun z s3 i3 G3 x3 => ?_
    first | apply i3.ref_elim | apply i3.bool_elim | apply i3.ty_elim | apply i3.bi_elim | cases i3
    exact wpAny_truthy_bool (leafP ((x1.trans x2).trans x3) (here' G3 rfl ⟨rfl, rfl, rfl⟩))) hm

/-- for x in what a call gives: a list of H -/
theorem ex_forE {x : Str} {p : Pos} {iter : Expr} {body : List Stmt} {pos : Pos} {Q : AF → List (Str × AV) → HM → Prop}
    (hi : EV X (n + 1) nm sc L fa cd ρ H iter fun v H' => ∃ a xs, v = .ref a ∧ H' a = some (.lst xs) ∧ Lp X n nm sc L fa cd (.Name x p) body xs ρ (H'.drop a) fun f ρ' H'' => H'' a = none → Q f ρ' (H''.put a (.lst xs)))
    (hs : ∀ x, foldedSetIterable iter (envOf nm sc L fa cd) x = pure x := by intro _; rfl) :
    EX X n nm sc L fa cd ρ H (.For (.Name x p) iter body [] pos) Q := fun A s ok G =>
  wpAny_For (hs := hs) (step (hi A s ok G) fun v _ _ H1 s1 i1 G1 x1 ⟨e1, a, xs, e2, ha, l⟩ => by
    subst e1 e2
    first | apply i1.ref_elim | apply i1.bool_elim | apply i1.ty_elim | apply i1.bi_elim | cases i1
    obtain ⟨items, k, hl, il⟩ := G1.obj ha
    have hL : a ≠ L := fun q => by subst q; rw [G1.off] at ha; cases ha
    refine wpAny_mono (list_loop (Q := fun f ρ' H' => H' a = none → Q f ρ' (H'.put a (.lst xs))) ok ⟨_, hl, rfl, _, rfl⟩ il (HM.drop_self ..) hL (fun I v s Q E _ q => go_name q) G1.aside1 (.refl _ _) l) (fun it s2 h2 => codeAny_mono h2 fun r s' h' => ?_) fun _ _ e => e
    cases r with
    | ok f => exact leafP x1 (PostL.back G1 ha h')
    | error e => exact h')
theorem exs_forE {x : Str} {p : Pos} {iter : Expr} {body rest : List Stmt} {pos : Pos} {Q : AF → List (Str × AV) → HM → Prop}
    (hi : EV X (n + 1) nm sc L fa cd ρ H iter fun v H' => ∃ a xs, v = .ref a ∧ H' a = some (.lst xs) ∧ Lp X n nm sc L fa cd (.Name x p) body xs ρ (H'.drop a) fun f ρ' H'' => H'' a = none → Cont X n nm sc L fa cd rest Q f ρ' (H''.put a (.lst xs)))
    (hs : ∀ x, foldedSetIterable iter (envOf nm sc L fa cd) x = pure x := by intro _; rfl) : EXS X n nm sc L fa cd ρ H (.For (.Name x p) iter body [] pos :: rest) Q := exs_c (ex_forE hi hs)

-- enumerate
noncomputable def enumA : Nat → List AV → List AV
  | _, [] => []
  | i, x :: xs => .tup [.int i, x] :: enumA (i + 1) xs
theorem enumA_len (xs : List AV) : ∀ i, (enumA i xs).length = xs.length := by
  induction xs with
  | nil => intro i; rfl
  | cons x xs ih => intro i; simp [enumA, ih]
theorem enumA_get (xs : List AV) : ∀ (i k : Nat) (x : AV), xs[k]? = some x → (enumA i xs)[k]? = some (.tup [.int ((i + k : Nat) : Int), x]) := by
  induction xs with
  | nil => intro i k x e; simp at e
  | cons y xs ih =>
    intro i k x e
    cases k with
    | zero => simp at e; subst e; simp [enumA]
    | succ k =>
      simp at e
      have := ih (i + 1) k x e
      simp only [enumA, List.getElem?_cons_succ]
      rw [this, Nat.add_right_comm, Nat.add_assoc]
theorem tup2_is {h : Heap} {T : Addr} {i : Int} {t : Tok} {v : Value} {a : AV} (hT : h.IsTuple T #[.int i t, v]) (hv : Is h v a) : Is h (.ref T) (.tup [.int i, a]) := by
  obtain ⟨o, ho, hc, n, hd⟩ := hT
  exact .tup ho hc hd (.cons (.int _ _) (.cons hv .nil))
theorem pe_enum (hK : IsK X) {x : Str} {pos : Pos} (hmiss : nsIn (hd.heap_39 w.params) mainGlobals x = some none) (hne : x ≠ "__name__") {T : String} (hb : bootBuiltins x = some (.type T)) (hk : sc.kind = .function := by rfl)
    (hx : (envOf nm sc L fa cd).kindOf x = some .globalImplicit := by rfl) (hd : (x == ("__debug__" : Str)) = false := by decide) : PE X n nm sc L fa cd ρ H (.Name x pos) (.ty T) :=
  pe_builtin (mgn hK hmiss) (bi_at hK hne hb) (fun _ => .ty _) hk hx hd
theorem ex_enum_lst {elts : List Expr} {k : Nat} {p : Pos} {func arg : Expr} {body : List Stmt} {pos pos' : Pos} {a : Addr} {xs : List AV} {Q : AF → List (Str × AV) → HM → Prop} (hf : PE X (n + 1) nm sc L fa cd ρ H func (.ty "enumerate")) (ha : PE X (n + 1) nm sc L fa cd ρ H arg (.ref a)) (hS : X.S a = some (.lst xs))
    (l : Lp X n nm sc L fa cd (.Tuple elts k p) body (enumA 0 xs) ρ H Q)
    (hst : starEach [arg] (envOf nm sc L fa cd) = (false, eval arg (envOf nm sc L fa cd)) :: starEach [] (envOf nm sc L fa cd) := by rfl)
    (he : eval (.Call func [arg] [] pos') (envOf nm sc L fa cd) = (do callWith pos' (← eval func (envOf nm sc L fa cd)) [] (backTo pos' (starEach [arg] (envOf nm sc L fa cd))) (backToKw pos' (keywordEach [] (envOf nm sc L fa cd)))) := by rfl)
    (hs : ∀ x, foldedSetIterable (.Call func [arg] [] pos') (envOf nm sc L fa cd) x = pure x := by intro _; rfl) : EX X n nm sc L fa cd ρ H (.For (.Tuple elts k p) (.Call func [arg] [] pos') body [] pos) Q := fun A s ok G =>
  wpAny_For (hs := hs) (Call_ (he := he) (stepP (hf A s ok G) fun v s1 i1 G1 x1 => by
    first | apply i1.ref_elim | apply i1.bool_elim | apply i1.ty_elim | apply i1.bi_elim | cases i1
    refine callWith_type1 (he := hst) (stepP (spliced_sound (PEs.cons ha hst .nil) ok G1) fun vs s2 i2 G2 x2 => ?_)
    obtain ⟨u, rfl, iu⟩ := i2.one
    cases iu
    obtain ⟨items, c, hl, il⟩ := G2.sobj hS
    have hlI : s2.heap.IsList a items := ⟨_, hl, rfl, _, rfl⟩
    have off := (G2.good.st a _ hS).2
    have hL : a ≠ L := fun q => by subst q; rw [HM.put_self] at off; cases off
    rw [HM.put_ne _ _ hL] at off
    have ha2 : a < s2.heap.objs.size := Heap.lt_size hl
    refine call_enumerate_list hlI fun h' hen hit hsz hk => ?_
    refine wpAny_pyIter_enum hen ?_
    obtain ⟨G3, x3⟩ := G2.grow (s' := { s2 with heap := h' }) hk rfl rfl
    have n1 := G2.new (Heap.get?_none_of_le (h := s2.heap) (Nat.le_refl _))
    have n2 := G2.new (Heap.get?_none_of_le (h := s2.heap) (Nat.le_succ _))
    have z1 : s2.heap.get? s2.heap.objs.size = none := Heap.get?_none_of_le (Nat.le_refl _)
    have z2 : s2.heap.get? (s2.heap.objs.size + 1) = none := Heap.get?_none_of_le (Nat.le_succ _)
    have W := KTurns.ofWalksU (elts := elts) (k := k) (pos := p) (WalksT.toU (WalksT.enumerate (prog := PW) (w := w) (A := A) ok.hd (s2.heap.objs.size + 1) s2.heap.objs.size a (Nat.succ_ne_self _) (Nat.ne_of_lt (Nat.lt_succ_of_lt ha2)) (Nat.ne_of_lt ha2) items))
    have hlen : items.size = (enumA 0 xs).length := by rw [enumA_len, ← il.length, Array.length_toList]
    rw [hlen] at W
    refine loop_sound W ok (fun i v h p tk => ?_) (fun i h st b hb => ?_) (fun i v h st b hb => ?_) (fun b hb => ?_) (fun b hb => ?_) ⟨⟨_, hen⟩, hit, hlI.at fun o e => hk _ o e⟩ G3 ((x1.trans x2).trans x3) l
    · obtain ⟨T, vals, rfl, ⟨t, y, hy, rfl⟩, hT⟩ := p
      have ii := (il.mono x3.tup).mono tk
      have hy' : items.toList[i]? = some y := by rw [Array.getElem?_toList]; exact hy
      have hlt : i < xs.length := by rw [← il.length]; exact (List.getElem?_eq_some_iff.mp hy').1
      obtain ⟨u, e, iu⟩ := ii.get (List.getElem?_eq_getElem hlt)
      rw [hy'] at e; cases e
      refine ⟨_, enumA_get xs 0 i _ (List.getElem?_eq_getElem hlt), ?_⟩
      rw [Nat.zero_add]
      exact tup2_is hT iu
    · have hb' : b = s2.heap.objs.size + 1 ∨ b = s2.heap.objs.size := by simpa using hb
      rcases hb' with rfl | rfl
      · obtain ⟨⟨old, e⟩, _⟩ := st
        exact ⟨_, e, fun ⟨_, _, _, q⟩ => by cases q⟩
      · obtain ⟨_, ⟨o, e, c, d⟩, _⟩ := st
        exact ⟨o, e, fun ⟨_, _, _, q⟩ => by rw [d] at q; cases q⟩
    · obtain ⟨T, vals, _, _, _, ⟨y, e⟩, ⟨o, e2, c2, d2⟩, _⟩ := st
      have hb' : b = s2.heap.objs.size + 1 ∨ b = s2.heap.objs.size := by simpa using hb
      rcases hb' with rfl | rfl
      · exact ⟨_, e, fun ⟨_, _, _, q⟩ => by cases q⟩
      · exact ⟨o, e2, fun ⟨_, _, _, q⟩ => by rw [d2] at q; cases q⟩
    · have hb' : b = s2.heap.objs.size + 1 ∨ b = s2.heap.objs.size := by simpa using hb
      rcases hb' with rfl | rfl
      · exact ⟨(x1.trans x2).none z2, n2.1, n2.2.1⟩
      · exact ⟨(x1.trans x2).none z1, n1.1, n1.2.1⟩
    · have hb' : b = s2.heap.objs.size + 1 ∨ b = s2.heap.objs.size ∨ b = a := by simpa using hb
      rcases hb' with rfl | rfl | rfl
      · exact ⟨⟨_, hen⟩, n2.2.2.1, n2.2.2.2⟩
      · obtain ⟨o, e, _⟩ := hit; exact ⟨⟨o, e⟩, n1.2.2.1, n1.2.2.2⟩
      · exact ⟨⟨_, hk _ _ hl⟩, off, hL⟩))
end
end

-- TSrt
section
variable {w : World} {X : Cx PW w}

open PySem.Builtin
noncomputable def DRaw (h : Heap) (d : Addr) (es : Array DictEntry) (ep : Nat) : Prop := ∃ o, h.get? d = some o ∧ o.ExactDict ∧ o.data = .dict es ep
theorem DRaw.at {h h' : Heap} {d es ep} (x : DRaw h d es ep) (e : ∀ o, h.get? d = some o → h'.get? d = some o) : DRaw h' d es ep := let ⟨o, ho, r⟩ := x; ⟨o, e _ ho, r⟩
theorem DRaw.typeIs {s : Shared} {d es ep} (x : DRaw s.heap d es ep) : s.TypeIs (.ref d) "dict" := let ⟨o, ho, hc, _⟩ := x; ⟨o, ho, hc.1⟩
section
variable {prog : Program} {w : World} {A : Around} {E : Value → Shared → Prop} {s : Shared} {d it : Addr} {es : Array DictEntry} {ep i : Nat}
theorem td_iter {Q : Value → Shared → Prop} (hns : (d == sysModules) = false) (hm : DRaw s.heap d es ep)
    (hQ : Q (.ref s.heap.objs.size) { s with heap := s.heap.push { cls := .type "dict_keyiterator", data := .fields #[.ref d, .int 0 0, .int es.size 0, .int ep 0] } }) : wpAny (model prog w) A (pyIter (.ref d)) Q E s := by
  obtain ⟨o, ho, hc, hdat⟩ := id hm
  refine wpAny_pyIter_slot hm.typeIs F.slot_dict_iter (wpAny_call_entry F.slot_dict_iter hm.typeIs F.entry_dict_iter ?_ (F.args_dict_iter_1 _))
  unfold Builtin.«dict.__iter__»
  refine wpAny_bind ?_
  unfold Builtin.Dict.dictSlotNone
  refine wpAny_bind (wpAny_notOrdered_dict hm.typeIs (wpAny_pure ?_))
  show wpAny _ _ (Builtin.Dict.showsAll d >>= _) _ _ s
  unfold Builtin.Dict.showsAll
  rw [if_neg (by rw [hns]; exact Bool.false_ne_true)]
  refine wpAny_bind (wpAny_pure (wpAny_bind (wpAny_dictEntries ho hdat (wpAny_bind (wpAny_dictEpoch ho hdat ?_)))))
  exact wpAny_bind (wpAny_newObj_type (wpAny_pure ⟨_, rfl, "dict_keyiterator", _, ⟨_, Heap.get?_push_size _ rfl, rfl⟩, F.slot_dict_keyiterator_next.lookup, by simpa [rawInt] using hQ⟩))
theorem td_item {e : DictEntry} {Q : Option Value → Shared → Prop} (hit : s.heap.IsKeyIter it d i es.size ep) (hm : DRaw s.heap d es ep) (hx : es[i]? = some e)
    (hQ : ∀ h', h'.IsKeyIter it d (i + 1) es.size ep → Heap.SameBut it s.heap h' → Q (some e.key) { s with heap := h' }) : wpAny (model prog w) A (pyNext (.ref it)) Q E s := by
  obtain ⟨o, ho, hc, hd⟩ := id hit
  obtain ⟨od, hod, hcd, hdd⟩ := id hm
  obtain ⟨hlt, he⟩ := Array.getElem?_eq_some_iff.mp hx
  unfold pyNext
  refine wpAny_bind (wpAny_attempt (wpAny_callSpecial?_slot (name := Str.ofString "__next__") hit.typeIs F.slot_dict_keyiterator_next
    (wpAny_call_entry F.slot_dict_keyiterator_next hit.typeIs F.entry_dict_keyiterator_next ?_ (F.args_dict_keyiterator_next_1 _))))
  refine wpAny_bind (wpAny_pure ?_)
  refine wpAny_bind ?_
  refine wpAny_bind ?_
  first | refine wpAny_bind (wpAny_typeNameOfWhole_keyiter hit.typeIs (wpAny_pure ?_)) | refine wpAny_bind (wpAny_typeNameOf_keyiter hit.typeIs (wpAny_pure ?_))
  refine wpAny_bind (wpAny_fieldsOf ho hd ?_)
  have hown : Builtin.Dict_items.ownsTuple "dict_keyiterator" = false := by decide
  simp only [hown, Bool.false_eq_true, if_false]
  show wpAny _ _ (if (Value.ref d == Value.none) = true then _ else _) _ _ s
  rw [if_neg (show ¬ ((Value.ref d == Value.none) = true) from Bool.false_ne_true)]
  refine wpAny_bind (wpAny_pure (wpAny_bind (wpAny_dictEntries hod hdd ?_)))
  rw [if_neg (by simp)]
  refine wpAny_bind (wpAny_pure (wpAny_bind (wpAny_dictEpoch hod hdd ?_)))
  rw [if_neg (by simp)]
  refine wpAny_pure ?_
  simp only [show ¬ ((i : Int) < 0) from by omega, if_false, Int.toNat_natCast, Array.getElem?_eq_getElem hlt]
  refine wpAny_bind ?_
  first | refine wpAny_bind (wpAny_typeNameOfWhole_keyiter hit.typeIs (wpAny_pure ?_)) | refine wpAny_bind (wpAny_typeNameOf_keyiter hit.typeIs (wpAny_pure ?_))
  refine wpAny_bind (wpAny_isOneOf_keyiter hit.typeIs ?_)
  show wpAny _ _ (setField (.ref it) 1 (rawInt ((i : Int) + 1)) >>= _) _ _ s
  refine wpAny_bind (wpAny_setField ho hd (by simp) ?_)
  have hit' : (s.heap.update it (Obj.mapFields (·.setIfInBounds 1 (rawInt ((i : Int) + 1))))).IsKeyIter it d (i + 1) es.size ep :=
    ⟨_, Heap.get?_update_self _ ho (Obj.isFreed_of_fields (Obj.data_mapFields hd _)), (Obj.cls_mapFields ..).trans hc, by rw [Obj.data_mapFields hd]; simp [rawInt]⟩
  refine wpAny_bind (wpAny_holding ?_)
  refine wpAny_bind (wpAny_isOneOf_keyiter (s := { s with heap := s.heap.update it (Obj.mapFields (·.setIfInBounds 1 (rawInt ((i : Int) + 1)))) }) hit'.typeIs ?_)
  show wpAny _ _ (pure es[i].key) _ _ _
  rw [he]
  exact wpAny_pure (wpAny_pure ⟨_, rfl, wpAny_pure (hQ _ hit' (Heap.SameBut.update ..))⟩)
theorem td_end {Q : Option Value → Shared → Prop} (hh : A.handled = none) (hit : s.heap.IsKeyIter it d i es.size ep) (hm : DRaw s.heap d es ep) (hge : es.size ≤ i)
    (hQ : ∀ h', Heap.ExtBut it s.heap h' → Q none { s with heap := h' }) : wpAny (model prog w) A (pyNext (.ref it)) Q E s := by
  obtain ⟨o, ho, hc, hd⟩ := id hit
  obtain ⟨od, hod, hcd, hdd⟩ := id hm
  unfold pyNext
  refine wpAny_bind (wpAny_attempt (wpAny_callSpecial?_slot (name := Str.ofString "__next__") hit.typeIs F.slot_dict_keyiterator_next
    (wpAny_call_entry F.slot_dict_keyiterator_next hit.typeIs F.entry_dict_keyiterator_next ?_ (F.args_dict_keyiterator_next_1 _))))
  refine wpAny_bind (wpAny_pure ?_)
  refine wpAny_bind ?_
  refine wpAny_bind ?_
  first | refine wpAny_bind (wpAny_typeNameOfWhole_keyiter hit.typeIs (wpAny_pure ?_)) | refine wpAny_bind (wpAny_typeNameOf_keyiter hit.typeIs (wpAny_pure ?_))
  refine wpAny_bind (wpAny_fieldsOf ho hd ?_)
  have hown : Builtin.Dict_items.ownsTuple "dict_keyiterator" = false := by decide
  simp only [hown, Bool.false_eq_true, if_false]
  show wpAny _ _ (if (Value.ref d == Value.none) = true then _ else _) _ _ s
  rw [if_neg (show ¬ ((Value.ref d == Value.none) = true) from Bool.false_ne_true)]
  refine wpAny_bind (wpAny_pure (wpAny_bind (wpAny_dictEntries hod hdd ?_)))
  rw [if_neg (by simp)]
  refine wpAny_bind (wpAny_pure (wpAny_bind (wpAny_dictEpoch hod hdd ?_)))
  rw [if_neg (by simp)]
  refine wpAny_pure ?_
  simp only [show ¬ ((i : Int) < 0) from by omega, if_false, Int.toNat_natCast, Array.getElem?_eq_none hge]
  refine wpAny_bind ?_
  first | refine wpAny_bind (wpAny_typeNameOfWhole_keyiter hit.typeIs (wpAny_pure ?_)) | refine wpAny_bind (wpAny_typeNameOf_keyiter hit.typeIs (wpAny_pure ?_))
  show wpAny _ _ (setField (.ref it) 0 .none >>= _) _ _ s
  refine wpAny_bind (wpAny_setField ho hd (by simp) ?_)
  show wpAny _ _ (newExc (.type "StopIteration") [] >>= _) _ _ _
  refine wpAny_bind ?_
  simp only [newExc, newTuple]
  refine wpAny_bind (wpAny_newObj_type ?_ (by size_fits))
  refine wpAny_bind (m := firstArgMember _ _) (wpAny_of_eq (a := Value.none) (by first | rfl | (simp only [firstArgMember]; rfl)) ?_)
  refine wpAny_newObj_type ?_ (by size_fits)
  simp only [raiseNew]
  refine wpAny_bind (wpAny_handled ?_)
  rw [show A.in1.handled = none from hh]
  refine wpAny_bind (wpAny_pure (wpAny_throw ?_))
  refine wpAny_bind (wpAny_isInstance (T := "StopIteration") (b := true) ⟨_, Heap.get?_push_size _ rfl, rfl⟩ isSubtype_stop ?_)
  exact wpAny_pure (hQ _ (((Heap.SameBut.update ..).extBut.push _).push _))
end
theorem td_walks {prog : Program} {w : World} {A : Around} (hh : A.handled = none) (I d : Addr) (hne : d ≠ I) (es : Array DictEntry) (ep : Nat) :
    Walks prog w A I [I, d] [I] es.size (fun i v => ∃ e, es[i]? = some e ∧ v = e.key) (fun i h => h.IsKeyIter I d i es.size ep ∧ DRaw h d es ep) where
  sub := fun b hb => by simp at hb; simp [hb]
  frame := fun _ _ _ st hk => ⟨st.1.at fun o e => hk I (by simp) o e, st.2.at fun o e => hk d (by simp) o e⟩
  item := fun i s Q E hi st hQ => by
    refine td_item st.1 st.2 (e := es[i]) (by simp [hi]) fun h' hit' hs' => ?_
    exact hQ _ h' s.toks ⟨_, by simp [hi], rfl⟩ ⟨hit', st.2.at fun o e => hs'.extBut d o hne e⟩ fun b o hb e => hs'.extBut b o (fun h => hb (by simp [h])) e
  done := fun s Q E st hQ => td_end hh st.1 st.2 (Nat.le_refl _) fun h' he' => hQ h' s.toks fun b o hb e => he' b o (fun h => hb (by simp [h])) e
  self := fun _ _ _ _ st hQ => wpAny_pyIter_keyiter st.1 hQ
theorem td_src {prog : Program} {w : World} {d : Addr} (hns : (d == sysModules) = false) (es : Array DictEntry) (ep : Nat) : KdlSrc prog w "dict" d d es.size (fun i v => ∃ e, es[i]? = some e ∧ v = e.key) (fun h => DRaw h d es ep) where
  type := fun _ hm => hm.typeIs
  there := fun _ hm => let ⟨o, ho, _⟩ := hm; ⟨Heap.lt_size ho, Heap.lt_size ho⟩
  keep := fun _ _ hm hk => hm.at fun o e => hk d (.inl rfl) o e
  notList := by decide
  notTuple := by decide
  hint := fun _ _ _ _ hm hq => kdl_hint_dict hm.typeIs hq
  iter := fun A s hh hm => ⟨_, _, (fun _ _ hq => td_iter hns hm hq), td_walks hh _ d (by obtain ⟨o, ho, _⟩ := hm; exact Nat.ne_of_lt (Heap.lt_size ho)) es ep, ⟨⟨_, Heap.get?_push_size _ rfl, rfl, rfl⟩, hm.at fun o e => Heap.get?_push_of_some _ e⟩⟩
theorem key_is {prog : Program} {w : World} {h : Heap} {k : List Int} {a : Addr} (i : IsTupleKey (intKind prog w) h k a) : Is h (.ref a) (.tup (k.map .int)) := by
  obtain ⟨o, items, n, e, c, d, l⟩ := i
  refine .tup e c d ?_
  clear e d
  generalize items.toList = vs at l
  induction l with
  | nil => exact .nil
  | @cons x v xs vs hx hr ih =>
    refine .cons ?_ ih
    have : Value.isInt x v = true := hx
    cases v with
    | int i t =>
      have e : i = x := by simpa [Value.isInt] using this
      subst e; exact .int _ _
    | _ => exact absurd this (by simp [Value.isInt])
end

-- TSrt2
section
variable {w : World} {X : Cx PW w}

section
variable {prog : Program} {w : World} {A : Around} {E : Value → Shared → Prop} {s : Shared}
noncomputable abbrev key3 (l : Int) : AV := .tup [.int 1, .int 7, .int l]
theorem key3_inv {h : Heap} {a : Addr} {l : Int} (i : Is h (.ref a) (key3 l)) : ∃ o n t1 t2 t3, h.get? a = some o ∧ o.cls = .type "tuple" ∧ o.data = .seq #[.int 1 t1, .int 7 t2, .int l t3] n := by
  cases i with
  | @tup _ o items n _ e c d l =>
    obtain ⟨x, y, z, e2, i1, i2, i3⟩ := l.three
    obtain ⟨t1, rfl⟩ := i1.int_inv
    obtain ⟨t2, rfl⟩ := i2.int_inv
    obtain ⟨t3, rfl⟩ := i3.int_inv
    refine ⟨o, n, t1, t2, t3, e, c, ?_⟩
    rw [d]
    congr 1
    exact Array.toList_inj.mp e2
theorem key3_lt {x y : Addr} {l k : Int} {Q : Bool → Shared → Prop} (hx : Is s.heap (.ref x) (key3 l)) (hy : Is s.heap (.ref y) (key3 k)) (h : ∀ c, Q c s) : wpAny (model prog w) A (keyLt' (tuples' true) (.ref x) (.ref y)) Q E s := by
  obtain ⟨o, n, t1, t2, t3, e, _, d⟩ := key3_inv hx
  obtain ⟨o', n', u1, u2, u3, e', _, d'⟩ := key3_inv hy
  refine kat_lt e d e' d' ?_
  show KatLex prog w A true (decide (3 < 3)) Q [(.int 1 t1, .int 1 u1), (.int 7 t2, .int 7 u2), (.int l t3, .int k u3)] 0 s
  refine kat_cons (wpAny_eqBool_int (kat_yes ?_))
  refine kat_cons (wpAny_eqBool_int (kat_yes ?_))
  refine kat_cons (wpAny_eqBool_int (kat_go (fun _ => kat_yes (kat_nil (h _))) fun _ => kat_no ?_))
  refine kat_one _ _ (PyProof.Rows.lt_int ?_)
  exact h _
theorem sort_small {a : Addr} {vs : List Value} {n : Nat} {P : PySem.Fin → Shared → Prop} (ho : s.heap.get? a = some (seqObj "list" vs.toArray n)) (h2 : vs.length < 2)
    (h : ∀ h' c, h'.get? a = some (seqObj "list" vs.toArray c) → (∀ b o, b ≠ a → s.heap.get? b = some o → h'.get? b = some o) → P (.done (.ret .none)) { s with heap := h' }) : wpAny (model prog w) A (Builtin.«list.sort» ⟨[.ref a], []⟩) P E s := by
  rw [list_sort_plain]
  have ha : a < s.heap.objs.size := Heap.lt_size ho
  refine wpAny_bind (listItems_at ho rfl ?_)
  refine wpAny_bind (listUpdate_at ho rfl ?_ (by rw [List.size_toArray, sizeLine_eq]; omega) (Nat.zero_le _))
  obtain ⟨e1, ho1⟩ : ∃ e1, (s.heap.update a (Obj.mapSeq fun _ => #[])).get? a = some (seqObj "list" #[] e1) := ⟨_, get?_update_seq ho (fun _ => #[])⟩
  refine wpAny_bind (seqEpoch_at ho1 rfl ?_)
  refine wpAny_bind (wpAny_newTuple ?_ (by show vs.length ≤ _; rw [sizeLine_eq]; omega))
  refine wpAny_bind (wpAny_newList ?_ (Nat.zero_le _))
  refine wpAny_holding ?_
  have keep : ∀ b o, b ≠ a → s.heap.get? b = some o → (((s.heap.update a (Obj.mapSeq fun _ => #[])).push (seqObj "tuple" vs.toArray 0)).push (seqObj "list" #[] 0)).get? b = some o := fun b o hb e =>
    Heap.get?_push_of_some _ (Heap.get?_push_of_some _ (by rw [Heap.get?_update_ne _ _ _ _ hb]; exact e))
  have ho6 : (((s.heap.update a (Obj.mapSeq fun _ => #[])).push (seqObj "tuple" vs.toArray 0)).push (seqObj "list" #[] 0)).get? a = some (seqObj "list" #[] e1) := Heap.get?_push_of_some _ (Heap.get?_push_of_some _ ho1)
  show wpAny (model prog w) A _ P E { s with heap := ((s.heap.update a (Obj.mapSeq fun _ => #[])).push (seqObj "tuple" vs.toArray 0)).push (seqObj "list" #[] 0) }
  dsimp only
  have hsz : vs.toArray.size < 2 := by rw [List.size_toArray]; exact h2
  rw [if_pos hsz, if_pos hsz]
  refine wpAny_bind (wpAny_pure ?_)
  rw [StateT.run_pure]
  refine wpAny_bind (wpAny_pure ?_)
  dsimp only
  have hout : (arrOf (SortSt.mk' general' (vs.toArray.zip vs.toArray) #[] 7 none)).map (·.2) = vs.toArray := by
    show (vs.toArray.zip vs.toArray).map (·.2) = vs.toArray
    apply Array.toList_inj.mp
    rw [Array.toList_map, Array.toList_zip, List.map_snd_zip]
    simp
  rw [hout]
  refine wpAny_bind (seqEpoch_at ho6 rfl ?_)
  refine wpAny_bind (listUpdate_at ho6 rfl ?_ (Nat.zero_le _) (by show vs.length ≤ _; rw [sizeLine_eq]; omega))
  simp only [bne_self_eq_false, Bool.false_eq_true, if_false]
  refine wpAny_pure (h _ _ (get?_update_seq ho6 fun _ => vs.toArray) fun b o hb e => ?_)
  rw [Heap.get?_update_ne _ _ _ _ hb]
  exact keep b o hb e
theorem kas_two : kas_sort 2 = .ask 1 0 fun c => .ret (if c = true then #[1, 0] else #[0, 1]) := by
  show KasT.ask 1 0 _ = KasT.ask 1 0 _
  congr 1
  funext c
  cases c <;> rfl
theorem sort_two {a a1 a2 : Addr} {l1 l2 : Int} {n : Nat} {P : PySem.Fin → Shared → Prop} (ho : s.heap.get? a = some (seqObj "list" [Value.ref a1, .ref a2].toArray n)) (i1 : Is s.heap (.ref a1) (key3 l1)) (i2 : Is s.heap (.ref a2) (key3 l2))
    (h : ∀ l h' c, (l = [Value.ref a1, .ref a2] ∨ l = [Value.ref a2, .ref a1]) → h'.get? a = some (seqObj "list" l.toArray c) → (∀ b o, b ≠ a → s.heap.get? b = some o → h'.get? b = some o) → P (.done (.ret .none)) { s with heap := h' }) : wpAny (model prog w) A (Builtin.«list.sort» ⟨[.ref a], []⟩) P E s := by
  rw [list_sort_plain]
  have ha : a < s.heap.objs.size := Heap.lt_size ho
  refine wpAny_bind (listItems_at ho rfl ?_)
  refine wpAny_bind (listUpdate_at ho rfl ?_ (by show 2 ≤ _; rw [sizeLine_eq]; omega) (Nat.zero_le _))
  obtain ⟨e1, ho1⟩ : ∃ e1, (s.heap.update a (Obj.mapSeq fun _ => #[])).get? a = some (seqObj "list" #[] e1) := ⟨_, get?_update_seq ho (fun _ => #[])⟩
  refine wpAny_bind (seqEpoch_at ho1 rfl ?_)
  refine wpAny_bind (wpAny_newTuple ?_ (by show 2 ≤ _; rw [sizeLine_eq]; omega))
  refine wpAny_bind (wpAny_newList ?_ (Nat.zero_le _))
  refine wpAny_holding ?_
  have keep : ∀ b o, b ≠ a → s.heap.get? b = some o → (((s.heap.update a (Obj.mapSeq fun _ => #[])).push (seqObj "tuple" [Value.ref a1, .ref a2].toArray 0)).push (seqObj "list" #[] 0)).get? b = some o := fun b o hb e =>
    Heap.get?_push_of_some _ (Heap.get?_push_of_some _ (by rw [Heap.get?_update_ne _ _ _ _ hb]; exact e))
  have ho6 : (((s.heap.update a (Obj.mapSeq fun _ => #[])).push (seqObj "tuple" [Value.ref a1, .ref a2].toArray 0)).push (seqObj "list" #[] 0)).get? a = some (seqObj "list" #[] e1) := Heap.get?_push_of_some _ (Heap.get?_push_of_some _ ho1)
  have tk : TupKept s.heap (((s.heap.update a (Obj.mapSeq fun _ => #[])).push (seqObj "tuple" [Value.ref a1, .ref a2].toArray 0)).push (seqObj "list" #[] 0)) := fun b o e t => by
    refine keep b o (fun q => ?_) e
    subst q
    rw [ho] at e; cases e
    exact nomatch (Value.type.inj t.1)
  have j1 := i1.mono tk
  have j2 := i2.mono tk
  show wpAny (model prog w) A _ P E { s with heap := ((s.heap.update a (Obj.mapSeq fun _ => #[])).push (seqObj "tuple" [Value.ref a1, .ref a2].toArray 0)).push (seqObj "list" #[] 0) }
  generalize ((s.heap.update a (Obj.mapSeq fun _ => #[])).push (seqObj "tuple" [Value.ref a1, .ref a2].toArray 0)).push (seqObj "list" #[] 0) = h6 at *
  dsimp only
  have hn2 : ¬ ([Value.ref a1, .ref a2].toArray.size < 2) := by show ¬ 2 < 2; omega
  rw [if_neg hn2, if_neg hn2]
  obtain ⟨o1, n1, t1, t2, t3, f1, c1, d1⟩ := key3_inv j1
  obtain ⟨o2, n2, u1, u2, u3, f2, c2, d2⟩ := key3_inv j2
  have kt : KatTups h6 [Value.ref a1, .ref a2] [.int 1 t1, .int 1 u1] := .cons f1 c1 d1 rfl (.cons f2 c2 d2 rfl .nil)
  refine wpAny_bind (kat_kind (s := { s with heap := h6 }) (T := .type "int") kt (by show 0 < 2; omega) (fun v hv => ?_) rfl ?_)
  · have : v = .int 1 t1 ∨ v = .int 1 u1 := by simpa using hv
    rcases this with rfl | rfl <;> exact Looks.of_pure rfl
  refine wpAny_bind (wpAny_mono (kat_run (prog := prog) (w := w) (κ := tuples' true) (ks := [Value.ref a1, .ref a2]) (vs := [Value.ref a1, .ref a2]) (Q := fun st' s' => ∃ p : Array Nat, (p = #[1, 0] ∨ p = #[0, 1]) ∧ arrOf st' = p.map (kas_item ([Value.ref a1, .ref a2].toArray.zip [Value.ref a1, .ref a2].toArray)) ∧ failedOf st' = none ∧ s' = { s with heap := h6 })
    (G := fun p s' => (p = #[1, 0] ∨ p = #[0, 1]) ∧ s' = { s with heap := h6 }) rfl (by show 2 ≤ 2; omega) (by show 2 < 64; omega) (fun p' st' s' _ b1 b2 b3 => ⟨p', b3.1, b1, b2, b3.2⟩) ?_) ?_ fun _ _ e => e)
  · show (kas_sort 2).kasWp _ _ _
    rw [kas_two]
    show kas_ask prog w A (tuples' true) [Value.ref a1, .ref a2] 1 0 _ _
    unfold kas_ask
    refine key3_lt (s := { s with heap := h6 }) j2 j1 fun c => ?_
    cases c
    · exact ⟨.inr rfl, rfl⟩
    · exact ⟨.inl rfl, rfl⟩
  rintro ⟨⟨⟩, st'⟩ s' ⟨p, hp, har, hf, rfl⟩
  dsimp only
  have hout := kat_snds (ks := [Value.ref a1, .ref a2]) (vs := [Value.ref a1, .ref a2]) rfl har
  have hl : ∃ l, (l = [Value.ref a1, .ref a2] ∨ l = [Value.ref a2, .ref a1]) ∧ (arrOf st').map (·.2) = l.toArray := by
    rcases hp with rfl | rfl
    · exact ⟨_, .inr rfl, hout⟩
    · exact ⟨_, .inl rfl, hout⟩
  obtain ⟨l, hl, hout⟩ := hl
  rw [hout]
  have hlen : l.length = 2 := by rcases hl with rfl | rfl <;> rfl
  refine wpAny_bind (seqEpoch_at (s := { s with heap := h6 }) ho6 rfl ?_)
  refine wpAny_bind (listUpdate_at (s := { s with heap := h6 }) ho6 rfl ?_ (Nat.zero_le _) (by show l.toArray.size ≤ _; rw [List.size_toArray, hlen, sizeLine_eq]; omega))
  rw [hf]
  simp only [bne_self_eq_false, Bool.false_eq_true, if_false]
  refine wpAny_pure (h l _ _ hl (get?_update_seq ho6 fun _ => l.toArray) fun b o hb e => ?_)
  show (h6.update a _).get? b = some o
  rw [Heap.get?_update_ne _ _ _ _ hb]
  exact keep b o hb e
end
end

-- TSnt
section
variable {w : World} {X : Cx PW w}

variable {A : Lay X}
theorem Lay.node_get {i : Nat} (h : i < 3) : ([.ref (A.nd 0), .ref (A.nd 1), .ref (A.nd 2)] : List AV)[((i : Nat) : Int).toNat]? = some (.ref (A.nd i)) := by
  rcases i with _ | _ | _ | i
  · rfl
  · rfl
  · rfl
  · omega
theorem Lay.way_get {i j : Nat} (h : j < A.deg i) : ((List.range (A.deg i)).map fun j => AV.int (A.way i j))[((j : Nat) : Int).toNat]? = some (.int (A.way i j)) := by simp [h]
theorem Lay.face_get {i j : Nat} (h : j < A.deg i) : ((List.range (A.deg i)).map fun j => AV.ref (A.fc i j))[((j : Nat) : Int).toNat]? = some (.ref (A.fc i j)) := by simp [h]
theorem put_drop {H : HM} {t : Addr} {o : AO} (h : H t = none) : (H.put t o).drop t = H := by
  funext b; unfold HM.drop HM.put
  by_cases e : b = t
  · subst e; simp [h]
  · simp [e]
noncomputable def Lay.rowMsg (A : Lay X) (i : Nat) (lsa : AV) (j : Nat) : AV := .tup [.int (A.way i j), .int i, .str "row", lsa]
noncomputable def St.sends (st : St) (A : Lay X) (i : Nat) (lsa : AV) (js : List Nat) : St := { st with wire := st.wire ++ js.map (A.rowMsg i lsa) }
structure SI (A : Lay X) (i : Nat) (lsa lsa1 : AV) (st : St) (all : List Nat) (js : List Nat) (ρ : List (Str × AV)) (H : HM) : Prop where
  s : ∃ st', H = A.H st' ∧ st'.sends A i lsa1 js = st.sends A i lsa1 all ∧ st'.wire.length + js.length ≤ 90000
  js : ∀ j ∈ js, j < A.deg i
  net : ρ.lookup (Str.ofString "net") = some (.ref (A.addr sNet))
  at_ : ρ.lookup (Str.ofString "at") = some (.int i)
  lsa : ρ.lookup (Str.ofString "lsa") = some lsa
theorem c_lsent (hK : IsK X) {i : Nat} {a p n : Int} {st : St} {js : List Nat} {t : Addr} (hi : i < 3) (hjs : ∀ j ∈ js, j < A.deg i) (ht : A.H st t = none) (hw : st.wire.length + js.length ≤ 90000) :
    CL X 60 (.ref 308) [.ref (A.addr sNet), .int i, .ref t, lsaV a p n] ((A.H st).put t (.lst (js.map fun (j : Nat) => .int j))) fun _ H' => H' = (A.H (st.sends A i (lsaV (older a 1) p n) js)).put t (.lst (js.map fun (j : Nat) => .int j)) := by
  have hd := A.hdeg i hi
  refine cl_def (n := 58) (fn_of hK (f := 308) rfl rfl rfl) (names := ["net", "at", "numbers", "lsa"]) (by l_fit) (by decide) (by decide) fun L => ?_
  refine' exs_forH ?a1 (HM.put_self ..) ?a2
  case a1 => k_mem
  case a2 =>
  rw [put_drop ht]
  refine lp_inv (SI A i (lsaV a p n) (lsaV (older a 1) p n) st js) (fun (j : Nat) => .int j) ?_ ?_ rfl rfl _ _ _ ⟨⟨st, rfl, rfl, hw⟩, hjs, rfl, rfl, rfl⟩
  · rintro j js ρ H ⟨⟨st', rfl, h1, h2⟩, h4, f1, f2, f3⟩
    have hj := h4 j (.head _)
    have hnet := A.Hnet st'
    have hwire := A.Hwire st'
    have hnodes := A.hnodes
    have hnd := A.hnd i hi
    have hwl := A.hwl i hi
    have hfl := A.hfl i hi
    have hf : At X (A.H st') (A.fc i j) (faceD j (A.nl i j)) := .inr (A.hfc i hi j hj)
    have g1 := A.node_get hi
    have g2 := A.way_get hj
    have g3 := A.face_get hj
    refine' exs_ex ?b3
    refine' ev_meth ?v1 ?v2 ?v3 F.plainAttrs_list F.slot_list_append F.type_list_append ?v4
    case v1 => k_mem
    case v2 => k_all
    case v3 => exact ty_lst (.inl hwire)
    refine (cl_append hwire (by simp at h2; omega)).mono fun b H' pq0 => ?_
    obtain ⟨_, e⟩ := pq0
    rw [A.putWire] at e
    subst e
    refine exs_0 ⟨.inl rfl, ⟨_, rfl, ?_, ?_⟩, fun k hk => h4 k (.tail _ hk), f1, f2, f3⟩
    · rw [← h1]; simp [St.sends, Lay.rowMsg]
    · simp at h2 ⊢; omega
  · rintro ρ H ⟨⟨st', rfl, h1, h3⟩, h4, f1, f2, f3⟩
    intro _
    refine cont_next (exs_0 ?_)
    simp only [St.sends, List.map_nil, List.append_nil] at h1
    show _ = _
    have : st' = st.sends A i (lsaV (older a 1) p n) js := h1
    rw [this]
end

-- TTold
section
variable {w : World} {X : Cx PW w}

variable {A : Lay X}
theorem forgets_keep (i : Nat) (k : Int) : ∀ (js : List Nat) (st : St), (st.forgets i k js).rows = st.rows ∧ (st.forgets i k js).wire = st.wire ∧ (st.forgets i k js).now = st.now ∧ (st.forgets i k js).t0 = st.t0 ∧ (st.forgets i k js).t1 = st.t1 ∧ (st.forgets i k js).came = st.came
  | [], st => ⟨rfl, rfl, rfl, rfl, rfl, rfl⟩
  | j :: js, st => forgets_keep i k js (st.setOwed i j (dropA (st.owed i j) [1, 7, k]))
theorem floods_keep (i : Nat) (skip : Option Nat) (p : Int) (lsa : AV) : ∀ (js : List Nat) (st : St), (st.floods i skip p lsa js).rows = st.rows ∧ (st.floods i skip p lsa js).wire = st.wire ∧ (st.floods i skip p lsa js).now = st.now ∧ (st.floods i skip p lsa js).t0 = st.t0 ∧ (st.floods i skip p lsa js).t1 = st.t1 ∧ (st.floods i skip p lsa js).came = st.came
  | [], st => ⟨rfl, rfl, rfl, rfl, rfl, rfl⟩
  | j :: js, st => by
    have := floods_keep i skip p lsa js (if skip = some j then st else st.setOwed i j (storeA (st.owed i j) [1, 7, p + 1] lsa))
    simp only [St.floods]
    split at this
    · rename_i h; rw [if_pos h]; exact this
    · rename_i h; rw [if_neg h]; exact this
theorem forgets_len (i : Nat) (k : Int) (a b : Nat) : ∀ (js : List Nat) (st : St), ((st.forgets i k js).owed a b).length ≤ (st.owed a b).length
  | [], st => Nat.le_refl _
  | j :: js, st => by
    refine Nat.le_trans (forgets_len i k a b js _) ?_
    have := dropA_len (st.owed i j) [1, 7, k]
    simp only [St.setOwed]
    split
    · rename_i e; obtain ⟨rfl, rfl⟩ := e; exact this
    · exact Nat.le_refl _
theorem floods_len (i : Nat) (skip : Option Nat) (p : Int) (lsa : AV) (a b : Nat) : ∀ (js : List Nat) (st : St), ((st.floods i skip p lsa js).owed a b).length ≤ (st.owed a b).length + js.length
  | [], st => Nat.le_refl _
  | j :: js, st => by
    have := floods_len i skip p lsa a b js (if skip = some j then st else st.setOwed i j (storeA (st.owed i j) [1, 7, p + 1] lsa))
    have h2 := storeA_len (st.owed i j) [1, 7, p + 1] lsa
    simp only [St.floods, List.length_cons]
    split at this
    · rename_i h; rw [if_pos h]; omega
    · rename_i h; rw [if_neg h]
      simp only [St.setOwed] at this ⊢
      split at this
      · rename_i e; obtain ⟨rfl, rfl⟩ := e; omega
      · omega
noncomputable def St.toldN (st : St) (p : Nat) : Int := if p = 0 then st.t0 else st.t1
noncomputable def St.bump (st : St) (p : Nat) : St := if p = 0 then { st with t0 := st.t0 + 1 } else { st with t1 := st.t1 + 1 }
/-- a row taken at a router, from a face of its own or told by itself -/
noncomputable def St.take (st : St) (A : Lay X) (i : Nat) (skip : Option Nat) (p : Nat) (a n : Int) : St :=
  let st1 := st.forgets i (p + 1) (List.range (A.deg i))
  let st2 := st1.floods i skip p (lsaV a p n) (List.range (A.deg i))
  let st3 := st2.setRow i (storeA (st.rows i) [1, 7, p + 1] (.tup [lsaV a p n, .int st.now]))
  st3.sends A i (lsaV (older a 1) p n) ((List.range (A.deg i)).filter fun j => decide (skip ≠ some j))
theorem bump_keep (st : St) (p : Nat) : (st.bump p).rows = st.rows ∧ (st.bump p).wire = st.wire ∧ (st.bump p).now = st.now ∧ (st.bump p).owed = st.owed := by unfold St.bump; split <;> exact ⟨rfl, rfl, rfl, rfl⟩
theorem c_told0 (hK : IsK X) {st : St} (hz : ∀ a b, (st.owed a b).length ≤ 800) (hr : (st.rows 0).length ≤ 900)
    (hl : lookA (st.rows 0) [1, 7, 0 + 1] = none ∨ ∃ b k t, lookA (st.rows 0) [1, 7, 0 + 1] = some (.tup [lsaV b 0 k, .int t])) (hw : st.wire.length ≤ 80000) :
    CL X 100 (.ref 315) [.ref (A.addr sNet), .int 0] (A.H st) fun _ H' => H' = A.H ((st.bump 0).take A 0 none 0 0 (st.toldN 0 + 1)) := by
  have hd := A.hdeg 0 (by decide)
  refine CL.shrink ?_
  refine cl_def (n := 98) (fn_of hK (f := 315) rfl rfl rfl) (names := ["net", "spot"]) (by l_fit) (by decide) (by decide) fun L => ?_
  have hnet := A.Hnet st
  have htold := A.Htold st
  have hnodes := A.hnodes
  have hnd := A.hnd 0 (by decide)
  refine' exs_as ?a1 ?a2
  case a1 => k_mem
  refine' tg_sub ?a3 ?a4 ?a5 ?a6
  case a3 => k_mem
  case a4 => k_mem
  case a5 => exact .arr htold (by decide) (by show (0 : Int) < 2; decide) (by show 2 ≤ 1000; decide)
  rw [show ([AV.int st.t0, .int st.t1].set (0 : Int).toNat (.int (st.t0 + 1))) = [.int (st.t0 + 1), .int st.t1] from rfl, A.putTold]
  clear hnet htold
  have e1 : ({ st with t0 := st.t0 + 1, t1 := st.t1 } : St) = st.bump 0 := rfl
  rw [e1]
  obtain ⟨k1, k2, k3, k4⟩ := bump_keep st 0
  have hn : (st.bump 0).t0 = st.toldN 0 + 1 := rfl
  rw [← k1] at hr hl
  rw [← k2] at hw
  rw [← k4] at hz
  generalize st.toldN 0 + 1 = m at *
  clear e1
  generalize st.bump 0 = st1 at *
  clear k1 k2 k3 k4
  have hnet := A.Hnet st1
  have htold := A.Htold st1
  rw [hn] at htold
  k_updF
  have hf0 := c_forget (A := A) hK (i := 0) (k := 1) (st := st1) (by decide) (fun a b => by have := hz a b; omega)
  refine' exs_ex ?b1
  refine' ev_call ?b2 ?b3 ?b4 ?b5
  case b3 => k_same
  case b2 => exact fn_of hK rfl rfl rfl
  case b4 => k_all
  refine (hf0.less (by decide)).thenH fun b => ?_
  obtain ⟨k1, k2, k3, k4, k5, k6⟩ := forgets_keep 0 1 (List.range (A.deg 0)) st1
  have kl := fun a b => forgets_len 0 1 a b (List.range (A.deg 0)) st1
  clear hnet htold
  have hnet := A.Hnet (st1.forgets 0 1 (List.range (A.deg 0)))
  have hfl := c_flooded0 (A := A) hK (i := 0) (p := 0) (n := m) (a := 0) (st := st1.forgets 0 1 (List.range (A.deg 0))) (by decide) (fun a b => by have := hz a b; have := kl a b; omega)
  refine' exs_nmE ?c1
  refine' ev_call ?c2 ?c3 ?c4 ?c5
  case c3 => k_same
  case c2 => exact fn_of hK rfl rfl rfl
  case c4 => k_all
  refine (hfl.less (by decide)).mono fun b H' pq0 => ?_
  obtain ⟨t, e1, ht, e2⟩ := pq0
  subst e1 e2
  obtain ⟨l1, l2, l3, l4, l5, l6⟩ := floods_keep 0 none 0 (lsaV 0 0 m) (List.range (A.deg 0)) (st1.forgets 0 1 (List.range (A.deg 0)))
  have ll := fun a b => floods_len 0 none 0 (lsaV 0 0 m) a b (List.range (A.deg 0)) (st1.forgets 0 1 (List.range (A.deg 0)))
  generalize hst2 : ((st1.forgets 0 1 (List.range (A.deg 0))).floods 0 none 0 (lsaV 0 0 m) (List.range (A.deg 0))) = st2 at *
  have ht2 := A.Hoff _ st2 ht
  clear hnet
  have hnet := A.beside st2 (o := .lst (numsOf none (List.range (A.deg 0)))) ht2 (A.Hnet st2)
  have hrw := A.beside st2 (o := .lst (numsOf none (List.range (A.deg 0)))) ht2 (A.Hrows st2 (i := 0) (by decide))
  have D := A.hdb 0 (by decide)
  have er : st2.rows 0 = st1.rows 0 := by rw [l1, k1]
  have en : st2.now = st1.now := by rw [l3, k3]
  refine' exs_ex ?d1
  refine' ev_db (by assumption) ?d2 D ?d3 ?d4 ?d5 ?d6 ?d7 ?d8
  case d2 => k_mem
  case d3 => k_all
  case d5 => rfl
  case d4 => exact fn_of hK rfl rfl rfl
  case d6 => rfl
  case d7 => decide
  case d8 =>
  refine ((c_put hK D hrw (by rw [er]; omega) (by rw [er]; exact hl)).less (by decide)).mono fun b H' e => ?_
  rw [A.put3 st2 _ ht2 (A.Hrows st2 (by decide)) (A.putRow st2 (by decide) _)] at e
  subst e
  have ht3 := A.Hoff st2 (st2.setRow 0 (storeA (st2.rows 0) [1, 7, 0 + 1] (.tup [lsaV 0 0 m, .int st2.now]))) ht2
  have hls := c_lsent (A := A) hK (i := 0) (a := 0) (p := 0) (n := m) (st := st2.setRow 0 (storeA (st2.rows 0) [1, 7, 0 + 1] (.tup [lsaV 0 0 m, .int st2.now]))) (js := (List.range (A.deg 0)).filter fun j => decide (none ≠ some j)) (by decide) (fun j hj => List.mem_range.mp (List.mem_filter.mp hj).1) ht3 (by
    have h1 := List.length_filter_le (fun j => decide (none ≠ some j)) (List.range (A.deg 0))
    simp only [List.length_range] at h1
    show st2.wire.length + _ ≤ _
    rw [l2, k2]; omega)
  refine' exs_ex ?f1
  refine' ev_call ?f2 ?f3 ?f4 ?f5
  case f3 => k_same
  case f2 => exact fn_of hK rfl rfl rfl
  case f4 => k_all
  refine (hls.less (by decide)).thenH fun b => ?_
  refine exs_0 ⟨_, sub_put ?_, ?_⟩
  · exact A.Hoff _ _ ht3
  · unfold St.take
    rw [er, en, ← hst2]
    rfl
theorem c_told1 (hK : IsK X) {st : St} (hz : ∀ a b, (st.owed a b).length ≤ 800) (hr : (st.rows 1).length ≤ 900)
    (hl : lookA (st.rows 1) [1, 7, 1 + 1] = none ∨ ∃ b k t, lookA (st.rows 1) [1, 7, 1 + 1] = some (  .tup [lsaV b 1 k, .int t])) (hw : st.wire.length ≤ 80000) :
    CL X 100 (.ref 315) [.ref (A.addr sNet), .int 1] (A.H st) fun _ H' => H' = A.H ((st.bump 1).take A 1 none 1 0 (st.toldN 1 + 1)) := by
  have hd := A.hdeg 1 (by decide)
  refine CL.shrink ?_
  refine cl_def (n := 98) (fn_of hK (f := 315) rfl rfl rfl) (names := ["net", "spot"]) (by l_fit) (by decide) (by decide) fun L => ?_
  have hnet := A.Hnet st
  have htold := A.Htold st
  have hnodes := A.hnodes
  have hnd := A.hnd 1 (by decide)
  refine' exs_as ?a1 ?a2
  case a1 => k_mem
  refine' tg_sub ?a3 ?a4 ?a5 ?a6
  case a3 => k_mem
  case a4 => k_mem
  case a5 => exact .arr htold (by decide) (by show (1 : Int) < 2; decide) (by show 2 ≤ 1000; decide)
  rw [show ([AV.int st.t0, AV.int st.t1].set (1 : Int).toNat (.int (st.t1 + 1))) = [.int st.t0, .int (st.t1 + 1)] from rfl, A.putTold]
  clear hnet htold
  have e1 : ({ st with t0 := st.t0, t1 := st.t1 + 1 } : St) = st.bump 1 := rfl
  rw [e1]
  obtain ⟨k1, k2, k3, k4⟩ := bump_keep st 1
  have hn : (st.bump 1).t1 = st.toldN 1 + 1 := rfl
  rw [← k1] at hr hl
  rw [← k2] at hw
  rw [← k4] at hz
  generalize st.toldN 1 + 1 = m at *
  clear e1
  generalize st.bump 1 = st1 at *
  clear k1 k2 k3 k4
  have hnet := A.Hnet st1
  have htold := A.Htold st1
  rw [hn] at htold
  k_updF
  have hf0 := c_forget (A := A) hK (i := 1) (k := 2) (st := st1) (by decide) (fun a b => by have := hz a b; omega)
  refine' exs_ex ?b1
  refine' ev_call ?b2 ?b3 ?b4 ?b5
  case b3 => k_same
  case b2 => exact fn_of hK rfl rfl rfl
  case b4 => k_all
  refine (hf0.less (by decide)).thenH fun b => ?_
  obtain ⟨k1, k2, k3, k4, k5, k6⟩ := forgets_keep 1 2 (List.range (A.deg 1)) st1
  have kl := fun a b => forgets_len 1 2 a b (List.range (A.deg 1)) st1
  clear hnet htold
  have hnet := A.Hnet (st1.forgets 1 2 (List.range (A.deg 1)))
  have hfl := c_flooded0 (A := A) hK (i := 1) (p := 1) (n := m) (a := 0) (st := st1.forgets 1 2 (List.range (A.deg 1))) (by decide) (fun a b => by have := hz a b; have := kl a b; omega)
  refine' exs_nmE ?c1
  refine' ev_call ?c2 ?c3 ?c4 ?c5
  case c3 => k_same
  case c2 => exact fn_of hK rfl rfl rfl
  case c4 => k_all
  refine (hfl.less (by decide)).mono fun b H' pq0 => ?_
  obtain ⟨t, e1, ht, e2⟩ := pq0
  subst e1 e2
  obtain ⟨l1, l2, l3, l4, l5, l6⟩ := floods_keep 1 none 1 (lsaV 0 1 m) (List.range (A.deg 1)) (st1.forgets 1 2 (List.range (A.deg 1)))
  have ll := fun a b => floods_len 1 none 1 (lsaV 0 1 m) a b (List.range (A.deg 1)) (st1.forgets 1 2 (List.range (A.deg 1)))
  generalize hst2 : ((st1.forgets 1 2 (List.range (A.deg 1))).floods 1 none 1 (lsaV 0 1 m) (List.range (A.deg 1))) = st2 at *
  have ht2 := A.Hoff _ st2 ht
  clear hnet
  have hnet := A.beside st2 (o := .lst (numsOf none (List.range (A.deg 1)))) ht2 (A.Hnet st2)
  have hrw := A.beside st2 (o := .lst (numsOf none (List.range (A.deg 1)))) ht2 (A.Hrows st2 (i := 1) (by decide))
  have D := A.hdb 1 (by decide)
  have er : st2.rows 1 = st1.rows 1 := by rw [l1, k1]
  have en : st2.now = st1.now := by rw [l3, k3]
  refine' exs_ex ?d1
  refine' ev_db (by assumption) ?d2 D ?d3 ?d4 ?d5 ?d6 ?d7 ?d8
  case d2 => k_mem
  case d3 => k_all
  case d5 => rfl
  case d4 => exact fn_of hK rfl rfl rfl
  case d6 => rfl
  case d7 => decide
  case d8 =>
  refine ((c_put hK D hrw (by rw [er]; omega) (by rw [er]; exact hl)).less (by decide)).mono fun b H' e => ?_
  rw [A.put3 st2 _ ht2 (A.Hrows st2 (by decide)) (A.putRow st2 (by decide) _)] at e
  subst e
  have ht3 := A.Hoff st2 (st2.setRow 1 (storeA (st2.rows 1) [1, 7, 1 + 1] (.tup [lsaV 0 1 m, .int st2.now]))) ht2
  have hls := c_lsent (A := A) hK (i := 1) (a := 0) (p := 1) (n := m) (st := st2.setRow 1 (storeA (st2.rows 1) [1, 7, 1 + 1] (.tup [lsaV 0 1 m, .int st2.now]))) (js := (List.range (A.deg 1)).filter fun j => decide (none ≠ some j)) (by decide) (fun j hj => List.mem_range.mp (List.mem_filter.mp hj).1) ht3 (by
    have h1 := List.length_filter_le (fun j => decide (none ≠ some j)) (List.range (A.deg 1))
    simp only [List.length_range] at h1
    show st2.wire.length + _ ≤ _
    rw [l2, k2]; omega)
  refine' exs_ex ?f1
  refine' ev_call ?f2 ?f3 ?f4 ?f5
  case f3 => k_same
  case f2 => exact fn_of hK rfl rfl rfl
  case f4 => k_all
  refine (hls.less (by decide)).thenH fun b => ?_
  refine exs_0 ⟨_, sub_put ?_, ?_⟩
  · exact A.Hoff _ _ ht3
  · unfold St.take
    rw [er, en, ← hst2]
    rfl
end

-- TCm0
section
variable {w : World} {X : Cx PW w}

section
variable {nm : Str} {sc : Scope} {L fa : Addr} {cd : Value} {n : Nat} {ρ : List (Str × AV)} {H : HM}
/-- objects that nothing asks any more -/
theorem exs_forget {H'' : HM} {st : List Stmt} {Q : AF → List (Str × AV) → HM → Prop} (k : ∀ a ao, H'' a = some ao → H a = some ao) (h : EXS X n nm sc L fa cd ρ H'' st Q) : EXS X n nm sc L fa cd ρ H st Q := fun A s ok G => by
  have off : H'' L = none := by
    cases q : H'' L with
    | none => rfl
    | some o => have := k L o q; rw [G.off] at this; cases this
  have k2 : ∀ a ao, (H''.put L (.ns ρ)) a = some ao → (H.put L (.ns ρ)) a = some ao := fun a ao e => by
    by_cases q : a = L
    · subst q; rw [HM.put_self] at e ⊢; exact e
    · rw [HM.put_ne _ _ q] at e ⊢; exact k a ao e
  have G2 : GL X L ρ H'' s := ⟨off, G.good.less k2⟩
  refine wpAny_mono (h A s ok G2) (fun f s' ⟨b, ρ', H', i, g, x, q⟩ => ⟨b, ρ', H', i, g, ⟨fun c o e nc => ?_, x.tup, fun c nc nc' => ?_, x.os, x.there⟩, q⟩) fun _ _ e => e
  · refine x.kept c o e ?_
    cases r : (H''.put L (.ns ρ)) c with
    | none => rfl
    | some z => rw [k2 c z r] at nc; cases nc
  · refine x.dom c nc ?_
    cases r : (H''.put L (.ns ρ)) c with
    | none => rfl
    | some z => rw [k2 c z r] at nc'; cases nc'
end
variable {A : Lay X}
inductive Vd where
  | take | early | same | back
noncomputable abbrev Vd.v (ow : Bool) : Vd → AV
  | .take => .tup [.str "take"]
  | .early => .tup [.str "early"]
  | .same => .tup [.str "same", .bool ow]
  | .back => .tup [.str "send back"]
noncomputable def St.ack (st : St) (A : Lay X) (g j : Nat) (hd : AV) : St := { st with wire := st.wire ++ [.tup [.int (A.way g j), .int g, .str "ack", hd]] }
noncomputable def St.came1 (st : St) (A : Lay X) (g j : Nat) (a : Int) (p : Nat) (n : Int) (ow : Bool) (o k : Int) : Vd → St
  | .take => (st.take A g (some j) p a n).ack A g j (headV a p n)
  | .early => st
  | .same => if ow then st.setOwed g j (dropA (st.owed g j) [1, 7, p + 1]) else (st.setOwed g j (dropA (st.owed g j) [1, 7, p + 1])).ack A g j (headV a p n)
  | .back => st.sends A g (lsaV (older o 1) p k) [j]
theorem Lay.way_inj (A : Lay X) {i j j' : Nat} (hi : i < 3) (hj : j < A.deg i) (hj' : j' < A.deg i) (e : A.way i j = A.way i j') : j = j' := by
  have hd := A.hdeg i hi
  rw [A.eway i hi j hj, A.eway i hi j' hj'] at e
  have h1 : j < 2 := by omega
  have h2 : j' < 2 := by omega
  have h3 : i = 0 ∨ i = 1 ∨ i = 2 := by first | exact lt3 (by assumption) | omega
  have h4 : j = 0 ∨ j = 1 := by first | exact lt2 (by assumption) | omega
  have h5 : j' = 0 ∨ j' = 1 := by omega
  rcases h3 with rfl | rfl | rfl <;> rcases h4 with rfl | rfl <;> rcases h5 with rfl | rfl <;> first | rfl | (exact absurd e (by decide))
theorem cl_ways (A : Lay X) {i j n : Nat} {H : HM} (hi : i < 3) (hj : j < A.deg i) : PC X n (.builtin "list.index") [.ref (A.wl i), .int (A.way i j)] H (.int j) := fun B s vs ok G il => by
  obtain ⟨_, _, rfl, i1, i2⟩ := il.two
  first | apply i1.ref_elim | apply i1.bool_elim | apply i1.ty_elim | apply i1.bi_elim | cases i1
  obtain ⟨t, rfl⟩ := i2.int_inv
  obtain ⟨items, c, e, l⟩ := (G.st _ _ (A.hwl i hi)).1
  have l' : IsL s.heap items.toList (((List.range (A.deg i)).map fun j => (A.way i j : Int)).map .int) := by rw [List.map_map]; exact l
  have hd := A.hdeg i hi
  have hidx : ((List.range (A.deg i)).map fun j => (A.way i j : Int)).idxOf (A.way i j : Int) = j := by
    have w := fun j' (h : j' < A.deg i) (e : A.way i j = A.way i j') => A.way_inj hi hj h e
    rcases hd with h | h <;> rw [h] at hj w ⊢
    · have : j = 0 := by omega
      subst this; simp [List.range_succ]
    · have h4 : j = 0 ∨ j = 1 := by first | exact lt2 (by assumption) | omega
      rcases h4 with rfl | rfl
      · simp [List.range_succ]
      · have ne : ((A.way i 0 : Int)) ≠ (A.way i 1 : Int) := fun q => by
          have := w 0 (by omega) (by omega)
          omega
        have nb : ((A.way i 0 : Int) == (A.way i 1 : Int)) = false := by simpa using ne
        simp [List.range_succ, List.idxOf_cons, nb]
  have hmem : (A.way i j : Int) ∈ ((List.range (A.deg i)).map fun j => (A.way i j : Int)) := List.mem_map.mpr ⟨j, List.mem_range.mpr hj, rfl⟩
  have hlay : PyData.layable0 (.list ((((List.range (A.deg i)).map fun j => (A.way i j : Int))).map .int)) = true := by
    have w := A.eway i hi
    have h3 : i = 0 ∨ i = 1 ∨ i = 2 := by first | exact lt3 (by assumption) | omega
    rcases hd with h | h <;> rw [h] at w ⊢ <;> rcases h3 with rfl | rfl | rfl
    · simp only [List.range_succ, List.range_zero, List.nil_append, List.map_cons, List.map_nil, w 0 (by decide)]; decide +kernel
    · simp only [List.range_succ, List.range_zero, List.nil_append, List.map_cons, List.map_nil, w 0 (by decide)]; decide +kernel
    · simp only [List.range_succ, List.range_zero, List.nil_append, List.map_cons, List.map_nil, w 0 (by decide)]; decide +kernel
    · simp only [List.range_succ, List.range_zero, List.nil_append, List.cons_append, List.map_cons, List.map_nil, w 0 (by decide), w 1 (by decide)]; decide +kernel
    · simp only [List.range_succ, List.range_zero, List.nil_append, List.cons_append, List.map_cons, List.map_nil, w 0 (by decide), w 1 (by decide)]; decide +kernel
    · simp only [List.range_succ, List.range_zero, List.nil_append, List.cons_append, List.map_cons, List.map_nil, w 0 (by decide), w 1 (by decide)]; decide +kernel
  refine index_list_ints (vs := items.toList) ⟨_, e, rfl, _, rfl⟩ (intsAre_of l') hlay hmem ?_
  rw [hidx]
  obtain ⟨g, x⟩ := G.grow (s' := { s with toks := s.toks + 1 }) (fun _ _ e => e) rfl rfl
  exact ⟨_, H, .int _ _, g, x, rfl, rfl⟩
end

-- TCm1
section
variable {w : World} {X : Cx PW w}
set_option maxHeartbeats 4000000
variable {A : Lay X}
theorem merge_a {a b c d : AV} : mergeA [] [("stub", a), ("talking", b), ("asked", c), ("owed", d)] = ([("stub", a), ("talking", b), ("asked", c), ("owed", d)] : List (Str × AV)) := rfl
theorem merge_b {a b : AV} : mergeA [] [("flooded", a), ("told", b)] = ([("flooded", a), ("told", b)] : List (Str × AV)) := rfl
theorem merge_c {a b c d e f : AV} : mergeA [("stub", a), ("talking", b), ("asked", c), ("owed", d)] [("flooded", e), ("told", f)] = ([("stub", a), ("talking", b), ("asked", c), ("owed", d), ("flooded", e), ("told", f)] : List (Str × AV)) := rfl
theorem c_came (hK : IsK X) {g j p : Nat} {a n : Int} {st : St} {tag : Vd} {ow : Bool} {here ownV : AV} {o k : Int} (hg : g < 3) (hj : j < A.deg g)
    (how : ow = (lookA (st.owed g j) [1, 7, (p : Int) + 1]).isSome) (hz : ∀ a b, (st.owed a b).length ≤ 800) (hr : (st.rows g).length ≤ 900) (hw : st.wire.length ≤ 80000)
    (hhere : (here = .none ∧ ownV = .none ∧ lookA (st.rows g) [1, 7, (p : Int) + 1] = none) ∨ ∃ t b, here = lsaV o p k ∧ ownV = .tup [headV o p k, .int t] ∧ lookA (st.rows g) [1, 7, (p : Int) + 1] = some (.tup [lsaV b p k, .int t]) ∧ o = older b (st.now - t))
    (hv : ∀ fd H, At X H fd (factsD ow) → PC X 30 (.ref 200) [headV a p n, ownV, .int st.now, .ref fd] H (tag.v ow)) (hback : tag = .back → here = lsaV o p k) :
    CL X 130 (.ref 322) [.ref (A.addr sNet), .int g, .int (A.way g j), lsaV a p n] (A.H st) fun _ H' => H' = A.H (st.came1 A g j a p n ow o k tag) := by
  have hd := A.hdeg g hg
  have hl : lookA (st.rows g) [1, 7, (p : Int) + 1] = none ∨ ∃ b k t, lookA (st.rows g) [1, 7, (p : Int) + 1] = some (.tup [lsaV b p k, .int t]) := by
    rcases hhere with ⟨_, _, h⟩ | ⟨t, b, _, _, h, _⟩
    · exact .inl h
    · exact .inr ⟨b, k, t, h⟩
  refine CL.shrink ?_
  refine cl_def (n := 128) (fn_of hK (f := 322) rfl rfl rfl) (names := ["net", "goal", "source", "lsa"]) (by l_fit) (by decide) (by decide) fun L => ?_
  have hnet := A.Hnet st
  have hnodes := A.hnodes
  have hnd := A.hnd g hg
  have hwl := A.hwl g hg
  have hfl := A.hfl g hg
  have hnl := A.hnl g hg j hj
  have hmd := A.hmd g hg j hj
  have hf : At X (A.H st) (A.fc g j) (faceD j (A.nl g j)) := .inr (A.hfc g hg j hj)
  have g1 := A.node_get hg
  have g3 := A.face_get hj
  k_updF
  -- face
  refine' exs_nm (a := .ref (A.fc g j)) ?a1 ?a2
  case a1 =>
    refine' pe_sub ?a3 ?a4 (ASub.lst (.inr hfl) (by omega) (by omega) g3)
    case a3 => k_mem
    case a4 =>
      refine' ev_meth ?v1 ?v2 ?v3 F.plainAttrs_list F.slot_list_index F.type_list_index ?v4
      case v1 => k_mem
      case v2 => k_all
      case v3 => exact ty_lst (.inr hwl)
      case v4 => exact cl_ways A hg hj
  -- here, mate
  have D := A.hdb g hg
  have hrows := A.Hrows st hg
  have hlook : PC X 40 (.ref 93) [.ref (A.db g), .tup [.int 1, .int 7, .int ((p : Int) + 1)], .int st.now] (A.H st) here := by
    rcases hhere with ⟨e, _, h⟩ | ⟨t, b, e, _, h, e2⟩
    · rw [e]; exact c_look0 hK D hrows h
    · rw [e, e2]; exact c_look1 hK D hrows h
  refine' exs_sw2 (a := here) (b := .ref (A.md g j)) ?b1 ?b2
  case b1 =>
    refine' pe_tuple ?b3 (hz := Nat.le_of_ble_eq_true rfl)
    case b3 =>
      refine' PEs.one ?b4 ?b5
      case b4 =>
        refine' ev_db (by assumption) ?d2 D ?d3 ?d4 ?d5 ?d6 ?d7 ?d8
        case d2 => k_mem
        case d3 => k_all
        case d5 => rfl
        case d4 => exact fn_of hK rfl rfl rfl
        case d6 => rfl
        case d7 => decide
        case d8 => exact hlook.less (by decide)
      case b5 => k_all
  -- own
  refine' exs_nm (a := ownV) ?c1 ?c2
  case c1 =>
    rcases hhere with ⟨e, e2, h⟩ | ⟨t, b, e, e2, h, e3⟩
    · subst e e2
      refine' pe_if_t ?c3 ?c4
      case c3 => k_memK
      case c4 => k_mem
    · subst e e2
      refine' pe_if_f ?c5 ?c6
      case c5 => k_memK
      case c6 =>
      refine' pe_tuple ?c7 (hz := Nat.le_of_ble_eq_true rfl)
      case c7 =>
        refine' PEs.one ?c8 ?c9
        case c8 => k_mem
        case c9 =>
          refine' PEs.one ?c10 ?c11
          case c11 => exact .nil
          case c10 =>
          refine' ev_db (by assumption) ?e2 D ?e3 ?e4 ?e5 ?e6 ?e7 ?e8
          case e2 => k_mem
          case e3 => k_all
          case e5 => rfl
          case e4 => exact fn_of hK rfl rfl rfl
          case e6 => rfl
          case e7 => decide
          case e8 => exact (c_since hK D hrows h).less (by decide)
  -- facts
  refine' exs_nmE ?f1
  refine ev_dict fun fd hfd => ?_
  have howd := A.beside st (o := .sd []) hfd (A.Howed st hg hj)
  have hnet1 := A.beside st (o := .sd []) hfd (A.Hnet st)
  refine evd_cons (EV.of_PE (by k_mem) ?_)
  refine evd_cons (EV.of_PE (a := .bool false) (by k_mem) ?_)
  refine evd_cons (EV.of_PE (by k_mem) ?_)
  refine evd_cons (EV.of_PE (a := .bool ow) (by rw [how]; k_mem) ?_)
  refine evd_nil ⟨HM.put_self .., ?_⟩
  rw [merge_a]
  have hpp : ∀ (H : HM) (t : Addr) (x y : AO), (H.put t x).put t y = H.put t y := fun H t x y => by funext b; unfold HM.put; split <;> rfl
  rw [hpp]
  -- facts.update
  refine' exs_ex ?h1
  refine' ev_methE ?h2 ?h3 ?h4 F.plainAttrs_dict F.slot_dict_update F.type_dict_update
  case h2 => k_mem
  case h4 => exact ty_sd (.inl (HM.put_self ..))
  case h3 =>
  refine evl_cons ?_
  refine ev_dict fun fd2 hfd2 => ?_
  have hne : fd ≠ fd2 := fun e => by subst e; rw [HM.put_self] at hfd2; cases hfd2
  refine evd_cons (EV.of_PE (by k_mem) ?_)
  refine evd_cons (EV.of_PE (by k_mem) ?_)
  refine evd_nil ⟨HM.put_self .., ?_⟩
  rw [merge_b, hpp]
  refine evl_nil ?_
  have u1 : (((A.H st).put fd (.sd [("stub", .bool false), ("talking", .bool false), ("asked", .bool false), ("owed", .bool ow)])).put fd2 (.sd [("flooded", .bool true), ("told", .none)])) fd = some (.sd [("stub", .bool false), ("talking", .bool false), ("asked", .bool false), ("owed", .bool ow)]) := by
    rw [HM.put_ne _ _ hne]; exact HM.put_self ..
  have u2 : (((A.H st).put fd (.sd [("stub", .bool false), ("talking", .bool false), ("asked", .bool false), ("owed", .bool ow)])).put fd2 (.sd [("flooded", .bool true), ("told", .none)])) fd2 = some (.sd [("flooded", .bool true), ("told", .none)]) := HM.put_self ..
  have u3 := cl_update (X := X) (n := 10) u1 u2 hne (by simp)
  refine (u3.less (by decide)).mono fun b H' e => ?_
  rw [merge_c] at e
  subst e
  have hsub : ∀ x ao, ((A.H st).put fd (factsD ow)) x = some ao → (((((A.H st).put fd (.sd [("stub", .bool false), ("talking", .bool false), ("asked", .bool false), ("owed", .bool ow)])).put fd2 (.sd [("flooded", .bool true), ("told", .none)])).put fd (factsD ow)) x = some ao) := fun x ao e => by
    by_cases q : x = fd
    · subst q; rw [HM.put_self] at e ⊢; exact e
    · rw [HM.put_ne _ _ q] at e ⊢
      have q2 : x ≠ fd2 := fun q2 => by
        subst q2
        rw [HM.put_ne _ _ q] at hfd2
        rw [hfd2] at e; cases e
      rw [HM.put_ne _ _ q2, HM.put_ne _ _ q]; exact e
  refine exs_forget hsub ?_
  -- told, event
  have hnet2 := A.beside st (o := factsD ow) hfd (A.Hnet st)
  have hv1 := hv fd ((A.H st).put fd (factsD ow)) (.inl (HM.put_self ..))
  refine' exs_sw2 (a := tag.v ow) (b := .str "none") ?i1 ?i2
  case i1 => k_mem
  clear hv1 hnet2
  refine exs_forget (H'' := A.H st) (sub_put hfd) ?_
  clear hsub
  have hns : ((A.way g j : Int) + 1) ≠ 0 := by omega
  cases tag with
  | early =>
    k_updF
    · intro c; exact absurd c (by decide)
    intro c
    k_updF
    · intro c; exact absurd c (by decide)
    intro c
    k_updF
    · intro c; exact absurd c (by decide)
    intro c
    refine exs_0 (cont_next (exs_0 (cont_next ?_)))
    refine' exs_if0 (c := false) ?j1 ?j2 ?j3
    case j1 => refine' pt_and_f (pt_conv (b := false) ?j4 ?j5); (case j4 => k_memK); (case j5 => decide)
    case j2 => intro c; cases c
    intro _
    exact exs_0 ⟨_, fun _ _ e => e, rfl⟩
  | same =>
    k_updF
    · intro c; exact absurd c (by decide)
    intro c
    have howed := A.Howed st hg hj
    k_updF
    · intro c
      cases ow with
      | true =>
        refine' exs_nm (a := .str "implied") ?m1 ?m2
        case m1 => refine' pe_if_t ?m3 ?m4; (case m3 => k_memK); (case m4 => k_mem)
        refine' exs_ex ?m5
        refine' ev_meth ?m6 ?m7 ?m8 F.plainAttrs_dict F.slot_dict_pop F.type_dict_pop ?m9
        case m6 => k_mem
        case m7 => k_all
        case m8 => exact ty_td (.inl howed)
        refine (cl_dpop3 howed (by have := hz g j; omega)).mono fun b H' e => ?_
        rw [A.putOwed st hg hj] at e
        subst e
        refine exs_0 (cont_next (exs_0 (cont_next ?_)))
        have hf2 : At X (A.H (st.setOwed g j (dropA (st.owed g j) [1, 7, (p : Int) + 1]))) (A.fc g j) (faceD j (A.nl g j)) := .inr (A.hfc g hg j hj)
        have han := (c_answer (ev := "implied") (s := (A.way g j : Int) + 1) hK hf2).2.2.2 rfl
        refine' exs_if0 (c := false) ?m10 ?m11 ?m12
        case m10 =>
          refine' pt_and (c := true) (d := false) (pt_conv (b := true) ?m13 ?m14) fun _ => pt_and_f (pt_conv (b := false) ?m15 ?m16)
          case m13 => k_memK
          case m14 => decide
          case m15 => k_memK
          case m16 => decide
        case m11 => intro c; cases c
        intro _
        exact exs_0 ⟨_, fun _ _ e => e, rfl⟩
      | false =>
        refine' exs_nm (a := .str "double") ?n1 ?n2
        case n1 => refine' pe_if_f ?n3 ?n4; (case n3 => k_memK); (case n4 => k_mem)
        refine' exs_ex ?n5
        refine' ev_meth ?n6 ?n7 ?n8 F.plainAttrs_dict F.slot_dict_pop F.type_dict_pop ?n9
        case n6 => k_mem
        case n7 => k_all
        case n8 => exact ty_td (.inl howed)
        refine (cl_dpop3 howed (by have := hz g j; omega)).mono fun b H' e => ?_
        rw [A.putOwed st hg hj] at e
        subst e
        refine exs_0 (cont_next (exs_0 (cont_next ?_)))
        have hw2 : (st.setOwed g j (dropA (st.owed g j) [1, 7, (p : Int) + 1])).wire.length ≤ 80000 := hw
        have hres : st.came1 A g j a p n false o k .same = (st.setOwed g j (dropA (st.owed g j) [1, 7, (p : Int) + 1])).ack A g j (headV a p n) := rfl
        rw [hres]
        clear hres howed hnet
        generalize st.setOwed g j (dropA (st.owed g j) [1, 7, (p : Int) + 1]) = st2 at *
        have hf2 : At X (A.H st2) (A.fc g j) (faceD j (A.nl g j)) := .inr (A.hfc g hg j hj)
        have hnet := A.Hnet st2
        have hwire := A.Hwire st2
        have han := (c_answer (ev := "double") (s := (A.way g j : Int) + 1) hK hf2).2.1 rfl
        refine' exs_if0 (c := true) ?n10 ?n11 ?n12
        case n10 =>
          refine' pt_and (c := true) (d := true) (pt_conv (b := true) ?n13 ?n14) fun _ => pt_and (c := true) (d := true) (pt_conv (b := true) ?n15 ?n16) fun _ => tv_and_nil
          case n13 => k_memK
          case n14 => decide
          case n15 => k_memK
          case n16 => decide
        case n12 => intro c; cases c
        intro _
        refine' exs_ex ?n17
        refine' ev_meth ?n18 ?n19 ?n20 F.plainAttrs_list F.slot_list_append F.type_list_append ?n21
        case n18 => k_mem
        case n19 => k_all
        case n20 => exact ty_lst (.inl hwire)
        refine (cl_append hwire (by omega)).mono fun b H' pq0 => ?_
        obtain ⟨_, e⟩ := pq0
        rw [A.putWire] at e
        subst e
        exact exs_0 (cont_next (exs_0 ⟨_, fun _ _ e => e, rfl⟩))
    · intro c; exact absurd c (by decide)
  | back =>
    k_updF
    · intro c; exact absurd c (by decide)
    intro c
    k_updF
    · intro c; exact absurd c (by decide)
    intro c
    k_updF
    · intro c
      have hh := hback rfl
      subst hh
      refine' exs_ex ?q1
      refine' ev_callE ?q2 ?q3 ?q4
      case q3 => k_same
      case q2 => exact fn_of hK rfl rfl rfl
      case q4 =>
      refine evl_cons (EV.of_PE (by k_mem) ?_)
      refine evl_cons (EV.of_PE (by k_mem) ?_)
      refine evl_cons ?_
      refine ev_list (evl_cons (EV.of_PE (by k_mem) (evl_nil ⟨Nat.le_of_ble_eq_true rfl, fun t ht => ?_⟩)))
      refine evl_cons (EV.of_PE (by k_mem) ?_)
      refine evl_nil ?_
      have hls := c_lsent (A := A) hK (i := g) (a := o) (p := p) (n := k) (st := st) (js := [j]) hg (fun j' hj' => by rw [List.mem_singleton.mp hj']; exact hj) ht (by simp; omega)
      refine (hls.less (by decide)).thenH fun b => ?_
      refine exs_forget (H'' := A.H (st.sends A g (lsaV (older o 1) p k) [j])) (sub_put (A.Hoff _ _ ht)) ?_
      refine exs_0 (cont_next (exs_0 (cont_next (exs_0 (cont_next ?_)))))
      refine' exs_if0 (c := false) ?q5 ?q6 ?q7
      case q5 => refine' pt_and_f (pt_conv (b := false) ?q8 ?q9); (case q8 => k_memK); (case q9 => decide)
      case q6 => intro c; cases c
      intro _
      exact exs_0 ⟨_, fun _ _ e => e, rfl⟩
    · intro c; exact absurd c (by decide)
  | take =>
    k_updF
    · intro c
      have hf0 := c_forget (A := A) hK (i := g) (k := (p : Int) + 1) (st := st) hg (fun a b => by have := hz a b; omega)
      refine' exs_ex ?r1
      refine' ev_call ?r2 ?r3 ?r4 ?r5
      case r3 => k_same
      case r2 => exact fn_of hK rfl rfl rfl
      case r4 => k_all
      refine (hf0.less (by decide)).thenH fun b => ?_
      obtain ⟨k1, k2, k3, k4, k5, k6⟩ := forgets_keep g ((p : Int) + 1) (List.range (A.deg g)) st
      have kl := fun a b => forgets_len g ((p : Int) + 1) a b (List.range (A.deg g)) st
      clear hnet
      have hnet := A.Hnet (st.forgets g ((p : Int) + 1) (List.range (A.deg g)))
      have hf1 : At X (A.H (st.forgets g ((p : Int) + 1) (List.range (A.deg g)))) (A.fc g j) (faceD j (A.nl g j)) := .inr (A.hfc g hg j hj)
      have hfl1 := c_flooded1 (A := A) hK (i := g) (j0 := j) (p := p) (n := n) (a := a) (st := st.forgets g ((p : Int) + 1) (List.range (A.deg g))) hg hj (fun a b => by have := hz a b; have := kl a b; omega)
      refine' exs_nmE ?s1
      refine' ev_call ?s2 ?s3 ?s4 ?s5
      case s3 => k_same
      case s2 => exact fn_of hK rfl rfl rfl
      case s4 => k_all
      refine (hfl1.less (by decide)).mono fun b H' pq0 => ?_
      obtain ⟨t, e1, ht, e2⟩ := pq0
      subst e1 e2
      obtain ⟨l1, l2, l3, l4, l5, l6⟩ := floods_keep g (some j) (p : Int) (lsaV a p n) (List.range (A.deg g)) (st.forgets g ((p : Int) + 1) (List.range (A.deg g)))
      generalize hst2 : ((st.forgets g ((p : Int) + 1) (List.range (A.deg g))).floods g (some j) p (lsaV a p n) (List.range (A.deg g))) = st2 at *
      have ht2 := A.Hoff _ st2 ht
      clear hnet hf1
      have hnet := A.beside st2 (o := .lst (numsOf (some j) (List.range (A.deg g)))) ht2 (A.Hnet st2)
      have hrw := A.beside st2 (o := .lst (numsOf (some j) (List.range (A.deg g)))) ht2 (A.Hrows st2 hg)
      have er : st2.rows g = st.rows g := by rw [l1, k1]
      have en : st2.now = st.now := by rw [l3, k3]
      refine' exs_ex ?t1
      refine' ev_db (by assumption) ?t2 D ?t3 ?t4 ?t5 ?t6 ?t7 ?t8
      case t2 => k_mem
      case t3 => k_all
      case t5 => rfl
      case t4 => exact fn_of hK rfl rfl rfl
      case t6 => rfl
      case t7 => decide
      case t8 =>
      refine ((c_put hK D hrw (by rw [er]; omega) (by rw [er]; exact hl)).less (by decide)).mono fun b H' e => ?_
      rw [A.put3 st2 _ ht2 (A.Hrows st2 hg) (A.putRow st2 hg _)] at e
      subst e
      have ht3 := A.Hoff st2 (st2.setRow g (storeA (st2.rows g) [1, 7, (p : Int) + 1] (.tup [lsaV a p n, .int st2.now]))) ht2
      have hlen : (st2.setRow g (storeA (st2.rows g) [1, 7, (p : Int) + 1] (.tup [lsaV a p n, .int st2.now]))).wire.length + ((List.range (A.deg g)).filter fun j' => decide (some j ≠ some j')).length ≤ 90000 := by
        have h1 := List.length_filter_le (fun j' => decide (some j ≠ some j')) (List.range (A.deg g))
        simp only [List.length_range] at h1
        show st2.wire.length + _ ≤ _
        rw [l2, k2]; omega
      have hls := c_lsent (A := A) hK (i := g) (a := a) (p := p) (n := n) (st := st2.setRow g (storeA (st2.rows g) [1, 7, (p : Int) + 1] (.tup [lsaV a p n, .int st2.now]))) (js := (List.range (A.deg g)).filter fun j' => decide (some j ≠ some j')) hg (fun j hj => List.mem_range.mp (List.mem_filter.mp hj).1) ht3 hlen
      refine' exs_ex ?u1
      refine' ev_call ?u2 ?u3 ?u4 ?u5
      case u3 => k_same
      case u2 => exact fn_of hK rfl rfl rfl
      case u4 => k_all
      refine (hls.less (by decide)).thenH fun b => ?_
      have hres : (st2.setRow g (storeA (st2.rows g) [1, 7, (p : Int) + 1] (.tup [lsaV a p n, .int st2.now]))).sends A g (lsaV (older a 1) p n) ((List.range (A.deg g)).filter fun j' => decide (some j ≠ some j')) = st.take A g (some j) p a n := by
        unfold St.take
        rw [er, en, ← hst2]
      rw [hres]
      have ht4 := A.Hoff _ (st.take A g (some j) p a n) ht3
      have hw4 : (st.take A g (some j) p a n).wire.length ≤ 90000 := by
        rw [← hres]
        simp only [St.sends, List.length_append, List.length_map]
        exact hlen
      have hres2 : st.came1 A g j a p n ow o k .take = (st.take A g (some j) p a n).ack A g j (headV a p n) := rfl
      rw [hres2]
      clear hres2 hnet hrw hls hres
      generalize st.take A g (some j) p a n = st5 at *
      have hf5 : At X ((A.H st5).put t (.lst (((List.range (A.deg g)).filter fun j' => decide (some j ≠ some j')).map fun (j : Nat) => .int j))) (A.fc g j) (faceD j (A.nl g j)) := .inr (A.hfc g hg j hj)
      refine' exs_nm (a := .str "new") ?w1 ?w2
      case w1 =>
        refine' pe_if_f (pt_conv (b := false) (pt_inlst ?w3 ?w4 (ks := ((List.range (A.deg g)).filter fun j' => decide (some j ≠ some j')).map fun (j : Nat) => (j : Int)) ?w5) ?w6) ?w7
        case w3 => k_mem
        case w4 => k_mem
        case w5 => rw [List.map_map]; exact .inl (HM.put_self ..)
        case w7 => k_mem
        case w6 =>
          rw [List.any_eq_false]
          intro x hx
          obtain ⟨j', h1, rfl⟩ := List.mem_map.mp hx
          have h2 := (List.mem_filter.mp h1).2
          simp at h2 ⊢
          omega
      refine exs_forget (H'' := A.H st5) (sub_put ht4) ?_
      refine exs_0 (cont_next ?_)
      clear hf5
      have hf5 : At X (A.H st5) (A.fc g j) (faceD j (A.nl g j)) := .inr (A.hfc g hg j hj)
      have hnet := A.Hnet st5
      have hwire := A.Hwire st5
      have han := (c_answer (ev := "new") (s := (A.way g j : Int) + 1) hK hf5).2.2.1 rfl
      refine' exs_if0 (c := true) ?x10 ?x11 ?x12
      case x10 =>
        refine' pt_and (c := true) (d := true) (pt_conv (b := true) ?x13 ?x14) fun _ => pt_and (c := true) (d := true) (pt_conv (b := true) ?x15 ?x16) fun _ => tv_and_nil
        case x13 => k_memK
        case x14 => decide
        case x15 => k_memK
        case x16 => decide
      case x12 => intro c; cases c
      intro _
      refine' exs_ex ?x17
      refine' ev_meth ?x18 ?x19 ?x20 F.plainAttrs_list F.slot_list_append F.type_list_append ?x21
      case x18 => k_mem
      case x19 => k_all
      case x20 => exact ty_lst (.inl hwire)
      refine (cl_append hwire (by omega)).mono fun b H' pq0 => ?_
      obtain ⟨_, e⟩ := pq0
      rw [A.putWire] at e
      subst e
      exact exs_0 (cont_next (exs_0 ⟨_, fun _ _ e => e, rfl⟩))
    · intro c; exact absurd c (by decide)
end

-- TCome
section
variable {w : World} {X : Cx PW w}
set_option maxHeartbeats 4000000

section
variable {nm : Str} {sc : Scope} {L fa : Addr} {cd : Value} {n : Nat} {ρ : List (Str × AV)} {H : HM}
theorem exs_ift {t : Expr} {b rest : List Stmt} {pos : Pos} {c : Bool} {H1 : HM} {Q : AF → List (Str × AV) → HM → Prop} (h : PT X (n + 1) nm sc L fa cd ρ H t c) (hb : c = true → EXS X n nm sc L fa cd ρ H b fun f ρ' H' => f = .next ∧ ρ' = ρ ∧ H' = H1) (ho : c = false → H = H1)
    (r : EXS X n nm sc L fa cd ρ H1 rest Q) : EXS X n nm sc L fa cd ρ H (.If t b [] pos :: rest) Q :=
  exs_if0 h (fun e => (hb e).mono fun f ρ' H' ⟨e1, e2, e3⟩ => by subst e1 e2 e3; exact cont_next r) fun e => by rw [ho e]; exact r
end
variable {A : Lay X}
noncomputable def St.popped (st : St) (last : Bool) (q : Nat) : St := if last then { st with wire := st.wire.eraseIdx q } else st
noncomputable def St.noted (st : St) (A : Lay X) (g j : Nat) (p : Nat) (n : Int) : St := { st with came := .tup [.int g, .int (A.way g j), .tup [.int 1, .int 7, .int ((p : Int) + 1)], .int n] }
theorem popped_keep (st : St) (last : Bool) (q : Nat) : (st.popped last q).rows = st.rows ∧ (st.popped last q).owed = st.owed ∧ (st.popped last q).now = st.now ∧ (st.popped last q).t0 = st.t0 ∧ (st.popped last q).t1 = st.t1 ∧ (st.popped last q).wire.length ≤ st.wire.length := by
  unfold St.popped
  split
  · exact ⟨rfl, rfl, rfl, rfl, rfl, by rw [List.length_eraseIdx]; split <;> omega⟩
  · exact ⟨rfl, rfl, rfl, rfl, rfl, Nat.le_refl _⟩
theorem store_came {a b c d e v : AV} : storeA ([("now", a), ("wire", b), ("nodes", c), ("told", d), ("came", e)] : List (Str × AV)) "came" v = ([("now", a), ("wire", b), ("nodes", c), ("told", d), ("came", v)] : List (Str × AV)) := rfl
theorem c_come_row (hK : IsK X) {g j p q : Nat} {a n : Int} {st : St} {last : Bool} {H3 : HM} (hg : g < 3) (hj : j < A.deg g) (hq : st.wire[q]? = some (.tup [.int g, .int (A.way g j), .str "row", lsaV a p n])) (hw : st.wire.length ≤ 80000)
    (hc : CL X 130 (.ref 322) [.ref (A.addr sNet), .int g, .int (A.way g j), lsaV a p n] (A.H ((st.popped last q).noted A g j p n)) fun _ H' => H' = H3) :
    CL X 160 (.ref 329) [.ref (A.addr sNet), .int q, .bool last] (A.H st) fun _ H' => H' = H3 := by
  have hd := A.hdeg g hg
  refine cl_def (n := 158) (fn_of hK (f := 329) rfl rfl rfl) (names := ["net", "pick", "is_last"]) (by l_fit) (by decide) (by decide) fun L => ?_
  have hnet := A.Hnet st
  have hwire := A.Hwire st
  have hlt : q < st.wire.length := (List.getElem?_eq_some_iff.mp hq).1
  have hq' : st.wire[((q : Nat) : Int).toNat]? = some (.tup [.int g, .int (A.way g j), .str "row", lsaV a p n]) := hq
  refine' exs_as ?a1 ?a2
  case a1 =>
    refine' pe_sub ?a3 ?a4 (ASub.lst (.inl hwire) (by omega) (by omega) hq')
    case a3 => k_mem
    case a4 => k_mem
  case a2 =>
  refine tg_tuple (tgs_cons (tg_name (tgs_cons (tg_name (tgs_cons (tg_name (tgs_cons (tg_name (tgs_nil ?_)))))))))
  refine' exs_ift (H1 := A.H (st.popped last q)) ?b1 ?b2 ?b3 ?b4
  case b1 => k_memK
  case b3 => intro e; subst e; rfl
  case b2 =>
    intro e
    subst e
    refine' exs_ex ?b5
    refine' ev_meth ?b6 ?b7 ?b8 F.plainAttrs_list F.slot_list_pop F.type_list_pop ?b9
    case b6 => k_mem
    case b7 => k_all
    case b8 => exact ty_lst (.inl hwire)
    refine (cl_pop hwire (by omega) (by omega) hq').mono fun b H' pq0 => ?_
    obtain ⟨_, e⟩ := pq0
    rw [A.putWire] at e
    subst e
    exact exs_0 ⟨rfl, rfl, rfl⟩
  case b4 =>
  clear hnet hwire
  obtain ⟨k1, k2, k3, k4, k5, k6⟩ := popped_keep st last q
  generalize st.popped last q = st1 at *
  have hnet := A.Hnet st1
  have hnodes := A.hnodes
  have hnd := A.hnd g hg
  have hwl := A.hwl g hg
  have hfl := A.hfl g hg
  have hnl := A.hnl g hg j hj
  have g1 := A.node_get hg
  have g3 := A.face_get hj
  refine' exs_sw2 (a := .ref (A.nd g)) (b := headV a p n) ?c1 ?c2
  case c1 =>
    refine' pe_tuple ?c3 (hz := Nat.le_of_ble_eq_true rfl)
    case c3 =>
      refine' PEs.one ?c4 ?c5
      case c4 => k_mem
      case c5 =>
        refine' PEs.one ?c6 ?c7
        case c7 => exact .nil
        case c6 => refine' pe_if_t ?c8 ?c9; (case c8 => refine' pt_conv (b := true) ?c10 ?c11; (case c10 => k_memK); (case c11 => decide)); (case c9 => k_mem)
  case c2 =>
  refine' exs_as ?d1 ?d2
  case d1 => k_mem
  refine' tg_sub ?d3 ?d4 ?d5 ?d6
  case d3 => k_mem
  case d4 => k_mem
  case d5 => exact .sd hnet (by simp)
  rw [store_came, A.putNet]
  have hres : ({ st1 with now := st1.now, came := .tup [.int g, .int (A.way g j), .tup [.int 1, .int 7, .int ((p : Int) + 1)], .int n] } : St) = st1.noted A g j p n := rfl
  show EXS _ _ _ _ _ _ _ _ (A.H ({ st1 with now := st1.now, came := .tup [.int g, .int (A.way g j), .tup [.int 1, .int 7, .int ((p : Int) + 1)], .int n] } : St)) _ _
  rw [hres]
  clear hnet hres
  generalize st1.noted A g j p n = st2 at *
  have hnet := A.Hnet st2
  refine' exs_if1 (c := true) ?e1 ?e2 ?e3
  case e1 => refine' pt_conv (b := true) ?e4 ?e5; (case e4 => k_memK); (case e5 => decide)

  case e3 => intro c; cases c
  intro _
  refine' exs_ex ?f1
  refine' ev_call ?f2 ?f3 ?f4 ?f5
  case f3 => k_same
  case f2 => exact fn_of hK rfl rfl rfl
  case f4 => k_all
  refine (hc.less (by decide)).thenH fun b => ?_
  exact exs_0 (cont_next (exs_0 rfl))

theorem c_come_ack (hK : IsK X) {g j p q : Nat} {a n : Int} {st : St} {last : Bool} {H3 : HM} (hg : g < 3) (hj : j < A.deg g) (hq : st.wire[q]? = some (.tup [.int g, .int (A.way g j), .str "ack", headV a p n])) (hw : st.wire.length ≤ 80000)
    (hc : CL X 50 (.ref 256) [.ref (A.md g j), headV a p n] (A.H ((st.popped last q).noted A g j p n)) fun _ H' => H' = H3) :
    CL X 160 (.ref 329) [.ref (A.addr sNet), .int q, .bool last] (A.H st) fun _ H' => H' = H3 := by
  have hd := A.hdeg g hg
  refine cl_def (n := 158) (fn_of hK (f := 329) rfl rfl rfl) (names := ["net", "pick", "is_last"]) (by l_fit) (by decide) (by decide) fun L => ?_
  have hnet := A.Hnet st
  have hwire := A.Hwire st
  have hlt : q < st.wire.length := (List.getElem?_eq_some_iff.mp hq).1
  have hq' : st.wire[((q : Nat) : Int).toNat]? = some (.tup [.int g, .int (A.way g j), .str "ack", headV a p n]) := hq
  refine' exs_as ?a1 ?a2
  case a1 =>
    refine' pe_sub ?a3 ?a4 (ASub.lst (.inl hwire) (by omega) (by omega) hq')
    case a3 => k_mem
    case a4 => k_mem
  case a2 =>
  refine tg_tuple (tgs_cons (tg_name (tgs_cons (tg_name (tgs_cons (tg_name (tgs_cons (tg_name (tgs_nil ?_)))))))))
  refine' exs_ift (H1 := A.H (st.popped last q)) ?b1 ?b2 ?b3 ?b4
  case b1 => k_memK
  case b3 => intro e; subst e; rfl
  case b2 =>
    intro e
    subst e
    refine' exs_ex ?b5
    refine' ev_meth ?b6 ?b7 ?b8 F.plainAttrs_list F.slot_list_pop F.type_list_pop ?b9
    case b6 => k_mem
    case b7 => k_all
    case b8 => exact ty_lst (.inl hwire)
    refine (cl_pop hwire (by omega) (by omega) hq').mono fun b H' pq0 => ?_
    obtain ⟨_, e⟩ := pq0
    rw [A.putWire] at e
    subst e
    exact exs_0 ⟨rfl, rfl, rfl⟩
  case b4 =>
  clear hnet hwire
  obtain ⟨k1, k2, k3, k4, k5, k6⟩ := popped_keep st last q
  generalize st.popped last q = st1 at *
  have hnet := A.Hnet st1
  have hnodes := A.hnodes
  have hnd := A.hnd g hg
  have hwl := A.hwl g hg
  have hfl := A.hfl g hg
  have hnl := A.hnl g hg j hj
  have g1 := A.node_get hg
  have g3 := A.face_get hj
  refine' exs_sw2 (a := .ref (A.nd g)) (b := headV a p n) ?c1 ?c2
  case c1 =>
    refine' pe_tuple ?c3 (hz := Nat.le_of_ble_eq_true rfl)
    case c3 =>
      refine' PEs.one ?c4 ?c5
      case c4 => k_mem
      case c5 =>
        refine' PEs.one ?c6 ?c7
        case c7 => exact .nil
        case c6 => refine' pe_if_f ?c8 ?c9; (case c8 => refine' pt_conv (b := false) ?c10 ?c11; (case c10 => k_memK); (case c11 => decide)); (case c9 => k_mem)
  case c2 =>
  refine' exs_as ?d1 ?d2
  case d1 => k_mem
  refine' tg_sub ?d3 ?d4 ?d5 ?d6
  case d3 => k_mem
  case d4 => k_mem
  case d5 => exact .sd hnet (by simp)
  rw [store_came, A.putNet]
  have hres : ({ st1 with now := st1.now, came := .tup [.int g, .int (A.way g j), .tup [.int 1, .int 7, .int ((p : Int) + 1)], .int n] } : St) = st1.noted A g j p n := rfl
  show EXS _ _ _ _ _ _ _ _ (A.H ({ st1 with now := st1.now, came := .tup [.int g, .int (A.way g j), .tup [.int 1, .int 7, .int ((p : Int) + 1)], .int n] } : St)) _ _
  rw [hres]
  clear hnet hres
  generalize st1.noted A g j p n = st2 at *
  have hnet := A.Hnet st2
  refine' exs_if1 (c := false) ?e1 ?e2 ?e3
  case e1 => refine' pt_conv (b := false) ?e4 ?e5; (case e4 => k_memK); (case e5 => decide)

  case e2 => intro c; cases c
  intro _
  refine' exs_ex ?f1
  refine' ev_call ?f2 ?f3 ?f4 ?f5
  case f3 => k_same
  case f2 => exact fn_of hK rfl rfl rfl
  case f4 =>
    refine' PEs.one (a := .ref (A.md g j)) ?f6 ?f7
    case f7 => k_all
    case f6 =>
    refine' pe_sub ?g1 ?g2 (ASub.lst (i := 0) (.inr hnl) (by decide) (by decide) rfl)
    case g2 => k_mem
    case g1 =>
    refine' pe_sub ?g3 ?g4 (ASub.sd (k := "neighbours") (.inr (A.hfc g hg j hj)) rfl)
    case g4 => k_mem
    case g3 =>
    refine' pe_sub ?g5 ?g6 (ASub.lst (.inr hfl) (by omega) (by omega) g3)
    case g5 => k_mem
    case g6 =>
      refine' ev_meth ?v1 ?v2 ?v3 F.plainAttrs_list F.slot_list_index F.type_list_index ?v4
      case v1 => k_mem
      case v2 => k_all
      case v3 => exact ty_lst (.inr hwl)
      case v4 => exact cl_ways A hg hj
  refine (hc.less (by decide)).thenH fun b => ?_
  exact exs_0 (cont_next (exs_0 rfl))
end

-- TAn0
section
variable {w : World} {X : Cx PW w}

theorem cl_sorted {d : Addr} {m : Mp} {ls : List Int} {n : Nat} {H : HM} (hd : H d = some (.td m)) (hm : m.map (·.1) = ls.map fun l => [1, 7, l]) (h2 : ls.length ≤ 2) :
    CL X n (.builtin "sorted") [.ref d] H fun b H' => ∃ (c : Addr) (ks : List Int), b = .ref c ∧ H c = none ∧ (∀ k ∈ ks, k ∈ ls) ∧ ks.length ≤ 2 ∧ H' = H.put c (.lst (ks.map key3)) := fun A s vs ok G il => by
  obtain ⟨_, rfl, i1⟩ := il.one
  first | apply i1.ref_elim | apply i1.bool_elim | apply i1.ty_elim | apply i1.bi_elim | cases i1
  obtain ⟨xs, hx, hmx⟩ := (G.ob d _ hd).1
  obtain ⟨o, es, ep, ho, hc, hdat, he, his, hn⟩ := id hx
  have hns : (d == sysModules) = false := by
    obtain ⟨x, hx⟩ := X.sm
    cases q : d == sysModules with
    | false => rfl
    | true => have z := (G.ob d _ hd).2; rw [beq_iff_eq.mp q, hx] at z; cases z
  have hraw : DRaw s.heap d es ep := ⟨o, ho, hc, hdat⟩
  have hks : xs.map (·.1) = ls.map fun l => [1, 7, l] := hmx.keys.trans hm
  have hxl : xs.length = ls.length := by have := congrArg List.length hks; simpa using this
  have hel : es.size = xs.length := size_of_entries he
  refine Calls.call_function_entry PyProof.Rows.kind_sorted PyProof.Rows.plain_sorted PyProof.Rows.entry_sorted (PyProof.Rows.args_sorted1 _) ?_
  unfold Builtin.«sorted»
  refine wpAny_bind (m := checkCount "sorted" 1 1 _) (wpAny_pure ?_)
  refine wpAny_bind (kdu_collect (A := A.in1) (td_src hns es ep) ok.hd hraw (by rw [hel, hxl, sizeLine_eq]; omega) fun h' tk acc hk hacc => ?_)
  have hal : acc.toList.length = es.size := by rw [Array.length_toList]; exact hacc.1
  refine wpAny_bind (wpAny_newList ?_ (by rw [hal, hel, hxl, sizeLine_eq]; omega))
  have hacc2 : ∀ (j : Nat) (v : Value), acc.toList[j]? = some v → ∃ l, ls[j]? = some l ∧ ∃ a, v = .ref a ∧ Is s.heap (.ref a) (key3 l) := fun j v e => by
    obtain ⟨en, e2, e3⟩ := hacc.2 j v (by rw [← Array.getElem?_toList]; exact e)
    rw [entry_at he] at e2
    obtain ⟨x, e4, e5⟩ := Option.map_eq_some_iff.mp e2
    have e6 : (xs.map (·.1))[j]? = some x.1 := by rw [List.getElem?_map, e4]; rfl
    rw [hks, List.getElem?_map] at e6
    obtain ⟨l, e7, e8⟩ := Option.map_eq_some_iff.mp e6
    refine ⟨l, e7, x.2.1, by rw [e3, ← e5]; rfl, ?_⟩
    have := key_is (his x (List.mem_of_getElem? e4))
    rw [← e8] at this
    exact this
  have hD : (h'.push (PyProof.Rows.seqObj "list" acc.toList.toArray 0)).get? h'.objs.size = some (PyProof.Rows.seqObj "list" acc.toList.toArray 0) := Heap.get?_push_size _ rfl
  have keep1 : ∀ b o, s.heap.get? b = some o → (h'.push (PyProof.Rows.seqObj "list" acc.toList.toArray 0)).get? b = some o := fun b o e => Heap.get?_push_of_some _ (hk b o e)
  have lt1 : ∀ b o, s.heap.get? b = some o → b ≠ h'.objs.size := fun b o e => Nat.ne_of_lt (Heap.lt_size (hk b o e))
  have fresh : s.heap.get? h'.objs.size = none := by
    cases q : s.heap.get? h'.objs.size with
    | none => rfl
    | some o => exact absurd rfl (lt1 _ _ q)
  have fin : ∀ (l : List Value) (ks : List Int) (h'' : Heap) (c : Nat), (∀ k ∈ ks, k ∈ ls) → ks.length ≤ 2 → IsL s.heap l (ks.map key3) → h''.get? h'.objs.size = some (PyProof.Rows.seqObj "list" l.toArray c) → (∀ b o, b ≠ h'.objs.size → (h'.push (PyProof.Rows.seqObj "list" acc.toList.toArray 0)).get? b = some o → h''.get? b = some o) →
      ∃ b H', Is h'' (.ref h'.objs.size) b ∧ Good PW w X.h₀ X.S H' { s with heap := h'', toks := tk } ∧ Ext H s H' { s with heap := h'', toks := tk } ∧ ∃ (c : Addr) (ks : List Int), b = .ref c ∧ H c = none ∧ (∀ k ∈ ks, k ∈ ls) ∧ ks.length ≤ 2 ∧ H' = H.put c (.lst (ks.map key3)) := fun l ks h'' c hsub hlen il' hg hk2 => by
    have kk : ∀ b o, s.heap.get? b = some o → h''.get? b = some o := fun b o e => hk2 b o (lt1 b o e) (keep1 b o e)
    obtain ⟨g, x⟩ := G.add (s' := { s with heap := h'', toks := tk }) (a := h'.objs.size) (ao := .lst (ks.map key3)) kk fresh ⟨_, _, hg, by rw [List.toList_toArray]; exact il'.grow kk⟩ rfl rfl
    have off : H h'.objs.size = none := by
      cases q : H h'.objs.size with
      | none => rfl
      | some ao => obtain ⟨o, e, _⟩ := (G.ob _ _ q).1.there; rw [fresh] at e; cases e
    exact ⟨.ref _, _, .ref _, g, x, _, ks, rfl, off, hsub, hlen, rfl⟩
  refine wpAny_bind (wpAny_holding (wpAny_call_entry PyProof.Rows.slot_list_sort ⟨_, hD, rfl⟩ PyProof.Rows.entry_list_sort ?body (PyProof.Rows.args_list_sort _)))
  case body =>
  have hlen3 : acc.toList.length ≤ 2 := by omega
  have hlls : acc.toList.length = ls.length := by omega
  generalize acc.toList = al at *
  match al, hlen3 with
  | [], _ =>
    refine sort_small hD (by decide) fun h'' c hg hk2 => ⟨_, rfl, wpAny_pure ⟨_, rfl, ?_⟩⟩
    exact fin [] [] h'' c (fun _ h => by cases h) (by decide) .nil hg hk2
  | [v], _ =>
    obtain ⟨l, e1, a, rfl, i⟩ := hacc2 0 v rfl
    refine sort_small hD (by simp) fun h'' c hg hk2 => ⟨_, rfl, wpAny_pure ⟨_, rfl, ?_⟩⟩
    exact fin [.ref a] [l] h'' c (fun k hk => by rw [List.mem_singleton.mp hk]; exact List.mem_of_getElem? e1) (by simp) (.cons i .nil) hg hk2
  | [v, u], _ =>
    obtain ⟨l, e1, a, rfl, i⟩ := hacc2 0 v rfl
    obtain ⟨k, e2, b, rfl, j⟩ := hacc2 1 u rfl
    have tk1 : ∀ {a : Addr} {x : AV}, Is s.heap (.ref a) x → Is (h'.push (PyProof.Rows.seqObj "list" [Value.ref a, .ref b].toArray 0)) (.ref a) x := fun z => z.mono fun b o e _ => Heap.get?_push_of_some _ (hk b o e)
    refine sort_two hD (i.mono fun b o e _ => Heap.get?_push_of_some _ (hk b o e)) (j.mono fun b o e _ => Heap.get?_push_of_some _ (hk b o e)) fun lo h'' c hor hg hk2 => ⟨_, rfl, wpAny_pure ⟨_, rfl, ?_⟩⟩
    have m1 := List.mem_of_getElem? e1
    have m2 := List.mem_of_getElem? e2
    rcases hor with rfl | rfl
    · exact fin _ [l, k] h'' c (fun z hz => by rcases List.mem_cons.mp hz with rfl | hz; exact m1; rw [List.mem_singleton.mp hz]; exact m2) (by simp) (.cons i (.cons j .nil)) hg hk2
    · exact fin _ [k, l] h'' c (fun z hz => by rcases List.mem_cons.mp hz with rfl | hz; exact m2; rw [List.mem_singleton.mp hz]; exact m1) (by simp) (.cons j (.cons i .nil)) hg hk2
  | _ :: _ :: _ :: _, h => exact absurd h (by simp)
end

-- TAnew
section
variable {w : World} {X : Cx PW w}
set_option maxHeartbeats 4000000
variable {A : Lay X}
/-- what a database gives of a key: its row, aged -/
structure HasRow (m : Mp) (l b p n t : Int) : Prop where
  look : lookA m [1, 7, l] = some (.tup [lsaV b p n, .int t])
section
variable {nm : Str} {sc : Scope} {L fa : Addr} {cd : Value} {n : Nat}
structure NI (A : Lay X) (i j : Nat) (st : St) (t : Addr) (f : Int → AV) (all : List Int) (js : List Int) (ρ : List (Str × AV)) (H : HM) : Prop where
  s : ∃ ys : List Int, (∀ a ao, ((A.H st).put t (.lst (ys.map f))) a = some ao → H a = some ao) ∧ ys ++ js = all
  nb : ρ.lookup (Str.ofString "neighbour") = some (.ref (A.md i j))
  db : ρ.lookup (Str.ofString "database") = some (.ref (A.db i))
  now : ρ.lookup (Str.ofString "now") = some (.int st.now)
  found : ρ.lookup (Str.ofString "found") = some (.ref t)
noncomputable def LpJ {α : Type} (I : List α → List (Str × AV) → HM → Prop) (js : List α) (f : AF) (ρ : List (Str × AV)) (H : HM) : Prop := (f = .next ∨ f = .cont) ∧ I js ρ H
theorem lp_invJ {α : Type} {x : Str} {p : Pos} {body : List Stmt} {Q : AF → List (Str × AV) → HM → Prop} (I : List α → List (Str × AV) → HM → Prop) (f : α → AV)
    (step : ∀ j js ρ H, I (j :: js) ρ H → EXS X n nm sc L fa cd ((x, f j) :: ρ) H body (LpJ I js)) (fin : ∀ ρ H, I [] ρ H → Q .next ρ H)
    (hl : (envOf nm sc L fa cd).kindOf x = some .local := by rfl) (hk : sc.kind = .function := by rfl) : ∀ js ρ H, I js ρ H → Lp X n nm sc L fa cd (.Name x p) body (js.map f) ρ H Q
  | [], ρ, H, h => lp_nil (fin ρ H h)
  | j :: js, ρ, H, h => lp_name ((step j js ρ H h).mono fun g ρ' H' ⟨q, h'⟩ => by
      rcases q with rfl | rfl
      · exact lpc_next (lp_invJ I f step fin hl hk js ρ' H' h')
      · exact lpc_cont (lp_invJ I f step fin hl hk js ρ' H' h')) hl hk
end
theorem c_anew (hK : IsK X) {i j : Nat} {st : St} {ls : List Int} {B P N T : Int → Int} (hi : i < 3) (hj : j < A.deg i) (hm : (st.owed i j).map (·.1) = ls.map fun l => [1, 7, l]) (h2 : ls.length ≤ 2)
    (hrow : ∀ l ∈ ls, lookA (st.rows i) [1, 7, l] = some (.tup [lsaV (B l) (P l) (N l), .int (T l)])) :
    CL X 80 (.ref 277) [.ref (A.md i j), .ref (A.db i), .int st.now, .int 9] (A.H st) fun b H' => ∃ (t : Addr) (ks : List Int), b = .ref t ∧ A.H st t = none ∧ (∀ k ∈ ks, k ∈ ls) ∧ ks.length ≤ 2 ∧ H' = (A.H st).put t (.lst (ks.map fun l => lsaV (older (B l) (st.now - T l)) (P l) (N l))) := by
  have hdg := A.hdeg i hi
  refine CL.shrink ?_
  refine cl_def (n := 78) (fn_of hK (f := 277) rfl rfl rfl) (names := ["neighbour", "database", "now", "most"]) (by l_fit) (by decide) (by decide) fun L => ?_
  refine' exs_nmE ?a1
  refine ev_list (evl_nil ⟨Nat.zero_le _, fun t ht => ?_⟩)
  have hmd := A.hmd i hi j hj
  have how := A.beside st (o := .lst []) ht (A.Howed st hi hj)
  refine' exs_forE ?b1
  refine' ev_lst_upto (b := 9) ?b2
  refine' ev_bcall ?b3 ?b4 ?b5
  case b3 => k_ownIn
  case b4 => k_all
  refine (cl_sorted how hm h2).mono fun b H' pq0 => ?_
  obtain ⟨c, ks, e1, hc, hsub, hlen, e2⟩ := pq0
  subst e1 e2
  refine ⟨c, _, rfl, .inl (HM.put_self ..), by simp; omega, by k_mem, fun c2 hc2 => ?_⟩
  rw [List.take_of_length_le (by simp; omega)]
  refine ⟨c2, _, rfl, HM.put_self .., ?_⟩
  rw [put_drop hc2]
  have hct : c ≠ t := fun e => by rw [e, HM.put_self] at hc; cases hc
  have hc2t : c2 ≠ t := fun e => by
    rw [e, HM.put_ne _ _ (Ne.symm hct), HM.put_self] at hc2; cases hc2
  refine lp_invJ (NI A i j st t (fun l => lsaV (older (B l) (st.now - T l)) (P l) (N l)) ks) key3 ?_ ?_ rfl rfl ks _ _ ⟨⟨[], fun a ao e => ?_, rfl⟩, rfl, rfl, rfl, rfl⟩
  · rintro l js ρ H ⟨⟨ys, h1, h3⟩, f1, f2, f3, f4⟩
    refine exs_forget h1 ?_
    have hl : l ∈ ls := hsub l (by rw [← h3]; simp)
    have hyl : ys.length ≤ 1000 := by have := congrArg List.length h3; simp at this; omega
    clear h1
    have D := A.hdb i hi
    have hrw := A.beside st (o := .lst (ys.map fun l => lsaV (older (B l) (st.now - T l)) (P l) (N l))) ht (A.Hrows st hi)
    have hlook := c_look1 (X := X) hK (now := st.now) D hrw (hrow l hl)
    refine' exs_nm ?c1 ?c2
    case c1 =>
      refine' ev_db (by assumption) ?d2 D ?d3 ?d4 ?d5 ?d6 ?d7 ?d8
      case d2 => k_mem
      case d3 => k_all
      case d5 => rfl
      case d4 => exact fn_of hK rfl rfl rfl
      case d6 => rfl
      case d7 => decide
      case d8 => exact hlook.less (by decide)
    refine' exs_ex ?g1
    refine' ev_meth (as := [lsaV (older (B l) (st.now - T l)) (P l) (N l)]) ?v1 ?v2 ?v3 F.plainAttrs_list F.slot_list_append F.type_list_append ?v4
    case v1 => k_mem
    case v2 =>
      refine' PEs.one ?w1 ?w2
      case w2 => exact .nil
      case w1 =>
        refine' pe_if_f ?w3 ?w4
        case w3 => k_memK
        case w4 => k_mem
    case v3 => exact ty_lst (.inl (HM.put_self ..))
    refine (cl_append (HM.put_self ..) (by simp; omega)).mono fun b H' pq0 => ?_
    obtain ⟨_, e⟩ := pq0
    subst e
    have hpp : ∀ (H : HM) (x y : AO), (H.put t x).put t y = H.put t y := fun H x y => by funext b; unfold HM.put; split <;> rfl
    rw [hpp]
    refine exs_0 ⟨.inl rfl, ⟨ys ++ [l], fun a ao e => ?_, by rw [← h3]; simp⟩, f1, f2, f3, f4⟩
    rw [List.map_append] at e
    exact e
  · rintro ρ H ⟨⟨ys, h1, h3⟩, f1, f2, f3, f4⟩
    intro hn
    refine cont_next ?_
    rw [List.append_nil] at h3
    subst h3
    refine exs_forget (H'' := (A.H st).put t (.lst (ys.map fun l => lsaV (older (B l) (st.now - T l)) (P l) (N l)))) (fun a ao e => ?_) ?_
    · have q : a ≠ c2 := fun q => by subst q; rw [h1 _ _ e] at hn; cases hn
      rw [HM.put_ne _ _ q]; exact h1 _ _ e
    refine' exs_ret ?z1 ?z2
    case z1 => k_mem
    exact ⟨_, fun _ _ e => e, t, ys, rfl, ht, hsub, hlen, rfl⟩
  · have q : a ≠ c := fun q => by
      subst q
      rw [show ((A.H st).put t (.lst (([] : List Int).map fun l => lsaV (older (B l) (st.now - T l)) (P l) (N l)))) = (A.H st).put t (.lst []) from rfl, hc] at e
      cases e
    rw [HM.put_ne _ _ q]; exact e
end

-- TDeed
section
variable {w : World} {X : Cx PW w}
set_option maxHeartbeats 4000000

section
variable {nm : Str} {sc : Scope} {L fa : Addr} {cd : Value} {n : Nat}
theorem lp_invP {α : Type} {x y : Str} {p1 p2 p : Pos} {k : Nat} {body : List Stmt} {Q : AF → List (Str × AV) → HM → Prop} (I : List α → List (Str × AV) → HM → Prop) (f g : α → AV)
    (step : ∀ j js ρ H, I (j :: js) ρ H → EXS X n nm sc L fa cd ((y, g j) :: (x, f j) :: ρ) H body (LpJ I js)) (fin : ∀ ρ H, I [] ρ H → Q .next ρ H)
    (hx : (envOf nm sc L fa cd).kindOf x = some .local := by rfl) (hy : (envOf nm sc L fa cd).kindOf y = some .local := by rfl) (hk : sc.kind = .function := by rfl) : ∀ js ρ H, I js ρ H → Lp X n nm sc L fa cd (.Tuple [.Name x p1, .Name y p2] k p) body (js.map fun j => .tup [f j, g j]) ρ H Q
  | [], ρ, H, h => lp_nil (fin ρ H h)
  | j :: js, ρ, H, h => tg_tuple (tgs_cons (tg_name (tgs_cons (tg_name (tgs_nil ((step j js ρ H h).mono fun g' ρ' H' ⟨q, h'⟩ => by
      rcases q with rfl | rfl
      · exact lp_invP I f g step fin hx hy hk js ρ' H' h'
      · exact lp_invP I f g step fin hx hy hk js ρ' H' h')) hy hk)) hx hk))
end
variable {A : Lay X}
theorem enum_faces (A : Lay X) {i : Nat} (hi : i < 3) : enumA 0 ((List.range (A.deg i)).map fun j => .ref (A.fc i j)) = (List.range (A.deg i)).map fun j => .tup [.int (j : Nat), .ref (A.fc i j)] := by
  rcases A.hdeg i hi with h | h <;> rw [h] <;> rfl
noncomputable def St.quietNet (st : St) : St := { st with came := .none }
structure DI (A : Lay X) (st0 : St) (i : Nat) (form pick : Int) (M : AV → Prop) (js : List Nat) (ρ : List (Str × AV)) (H : HM) : Prop where
  s : ∃ msgs : List AV, H = A.H { st0 with wire := st0.wire ++ msgs } ∧ (∀ m ∈ msgs, M m) ∧ msgs.length + 2 * js.length ≤ 4
  js : ∀ j ∈ js, j < A.deg i
  net : ρ.lookup (Str.ofString "net") = some (.ref (A.addr sNet))
  pick : ρ.lookup (Str.ofString "pick") = some (.int pick)
  node : ρ.lookup (Str.ofString "node") = some (.ref (A.nd i))
structure EI (A : Lay X) (st0 : St) (i j : Nat) (form pick : Int) (M : AV → Prop) (left : Nat) (Pk : Int → Prop) (ks : List Int) (ρ : List (Str × AV)) (H : HM) : Prop where
  s : ∃ msgs : List AV, (∀ a ao, A.H { st0 with wire := st0.wire ++ msgs } a = some ao → H a = some ao) ∧ (∀ m ∈ msgs, M m) ∧ msgs.length + 2 * left + ks.length ≤ 4
  net : ρ.lookup (Str.ofString "net") = some (.ref (A.addr sNet))
  pick : ρ.lookup (Str.ofString "pick") = some (.int pick)
  node : ρ.lookup (Str.ofString "node") = some (.ref (A.nd i))
  num : ρ.lookup (Str.ofString "number") = some (.int j)
  pk : ∀ k ∈ ks, Pk k
theorem c_deed (hK : IsK X) {form pick tv : Int} {i : Nat} {st : St} {R : HM → Prop} {ls : Nat → List Int} {B P N T : Nat → Int → Int} (hi : i < 3) (hw : st.wire.length ≤ 80000)
    (hp : 0 ≤ pick) (hi3 : pick.fmod 3 = i) (htv : [AV.int st.t0, AV.int st.t1][(pick.fmod 2).toNat]? = some (.int tv))
    (ha : form < 2 → tv < 3 → CL X 100 (.ref 315) [.ref (A.addr sNet), .int (pick.fmod 2)] (A.H st.quietNet) fun _ H' => R H')
    (hls : ∀ j < A.deg i, (st.owed i j).map (·.1) = (ls j).map fun l => [1, 7, l]) (hl2 : ∀ j < A.deg i, (ls j).length ≤ 2)
    (hrow : ∀ j < A.deg i, ∀ l ∈ ls j, lookA (st.rows i) [1, 7, l] = some (.tup [lsaV (B j l) (P j l) (N j l), .int (T j l)]))
    (hb : form = 7 → ∀ msgs : List AV, (∀ m ∈ msgs, ∃ j, j < A.deg i ∧ ∃ l ∈ ls j, m = A.rowMsg i (lsaV (older (older (B j l) (st.now - T j l)) 1) (P j l) (N j l)) j) → msgs.length ≤ 4 → R (A.H { st.quietNet with wire := st.wire ++ msgs }))
    (hc : st.wire ≠ [] → form = 6 → R (A.H { st.quietNet with wire := st.wire.eraseIdx (pick.fmod st.wire.length).toNat }))
    (hd : st.wire ≠ [] → form ≠ 6 → form ≠ 7 → ¬ (form < 2 ∧ tv < 3) → CL X 160 (.ref 329) [.ref (A.addr sNet), .int (pick.fmod st.wire.length), .bool (form != 5)] (A.H st.quietNet) fun _ H' => R H')
    (he : st.wire = [] → R (A.H st.quietNet)) :
    CL X 200 (.ref 336) [.ref (A.addr sNet), .int form, .int pick] (A.H st) fun _ H' => R H' := by
  have hdg := A.hdeg i hi
  refine cl_def (n := 198) (fn_of hK (f := 336) rfl rfl rfl) (names := ["net", "form", "pick"]) (by l_fit) (by decide) (by decide) fun L => ?_
  have hnet := A.Hnet st
  have hwire := A.Hwire st
  refine' exs_as (a := .tup [.int st.wire.length, .none]) ?a1 ?a2
  case a1 =>
    refine' pe_tuple ?a3 (hz := Nat.le_of_ble_eq_true rfl)
    case a3 =>
    refine' PEs.one ?a4 ?a5
    case a5 => k_all
    case a4 =>
      refine' ev_bcall ?a6 ?a7 ?a8
      case a6 => k_ownIn
      case a7 => k_all
      case a8 => exact cl_len (.inl hwire) (by omega)
  case a2 =>
  refine tg_tuple (tgs_cons (tg_name (tgs_cons ?_)))
  refine' tg_sub ?b3 ?b4 ?b5 ?b6
  case b3 => k_mem
  case b4 => k_mem
  case b5 => exact .sd hnet (by simp)
  rw [store_came, A.putNet]
  have hres : ({ st with now := st.now, came := .none } : St) = st.quietNet := rfl
  rw [hres]
  refine tgs_nil ?_
  clear hnet hwire hres
  have hnet := A.Hnet st.quietNet
  have hwire := A.Hwire st.quietNet
  have htold := A.Htold st.quietNet
  have hnodes := A.hnodes
  have f2 : 0 ≤ pick.fmod 2 := by rw [Int.fmod_eq_emod_of_nonneg _ (by omega)]; omega
  have f2' : pick.fmod 2 < 2 ^ 63 := by rw [Int.fmod_eq_emod_of_nonneg _ (by omega)]; omega
  have f3 : 0 ≤ pick.fmod 3 := by rw [Int.fmod_eq_emod_of_nonneg _ (by omega)]; omega
  refine' exs_if1 (c := decide (form < 2) && (decide (tv < 3) && true)) ?c1 ?c2 ?c3
  case c1 =>
    refine' pt_and ?c4 fun _ => pt_and (pt_cm ?c5 ?c6 ?c7) fun _ => tv_and_nil
    case c4 => k_memK
    case c6 => k_mem
    case c5 =>
      refine' pe_sub ?c8 ?c9 (ASub.arr (.inl htold) f2 f2' htv)
      case c8 => k_mem
      case c9 => k_mem
    case c7 => k_allIn
  case c2 =>
    intro c
    have c' : form < 2 ∧ tv < 3 := by simpa using c
    refine' exs_ex ?d1
    refine' ev_call ?d2 ?d3 ?d4 ?d5
    case d3 => k_same
    case d2 => exact fn_of hK rfl rfl rfl
    case d4 => k_all
    exact ((ha c'.1 c'.2).less (by decide)).mono fun b H' e => exs_0 (cont_next (exs_0 e))
  intro c
  have cn : ¬ (form < 2 ∧ tv < 3) := by
    intro h
    simp [h.1, h.2] at c
  refine' exs_if1 (c := form == 7) ?e1 ?e2 ?e3
  case e1 => k_memK
  case e2 =>
    intro c7
    have c7' : form = 7 := by simpa using c7
    have g1 := A.node_get hi
    have g2 : ([.ref (A.nd 0), .ref (A.nd 1), .ref (A.nd 2)] : List AV)[(pick.fmod 3).toNat]? = some (.ref (A.nd i)) := by rw [hi3]; exact g1
    have hnd := A.hnd i hi
    refine' exs_nm (a := .ref (A.nd i)) ?f1 ?f2
    case f1 =>
      refine' pe_sub ?f3 ?f4 (ASub.lst (.inr hnodes) f3 (by omega) g2)
      case f3 => k_mem
      case f4 => k_mem
    refine exs_c ?_
    refine' ex_enum_lst ?g1 ?g2 (A.hfl i hi) ?g3
    case g1 => exact pe_enum hK rfl (by decide) rfl
    case g2 => k_mem
    case g3 =>
    rw [enum_faces A hi]
    refine lp_invP (DI A st.quietNet i form pick (fun m => ∃ j, j < A.deg i ∧ ∃ l ∈ ls j, m = A.rowMsg i (lsaV (older (older (B j l) (st.now - T j l)) 1) (P j l) (N j l)) j)) (fun (j : Nat) => .int j) (fun j => .ref (A.fc i j)) ?_ ?_ rfl rfl rfl _ _ _ ⟨⟨[], by simp, (fun m hm => by cases hm), by rcases hdg with h | h <;> rw [h] <;> simp⟩, fun j hj => List.mem_range.mp hj, rfl, rfl, rfl⟩
    · rintro j js ρ H ⟨⟨msgs, rfl, hM, hlen⟩, h4, n1, n2, n3⟩
      have hj := h4 j (.head _)
      have hf : At X (A.H { st.quietNet with wire := st.quietNet.wire ++ msgs }) (A.fc i j) (faceD j (A.nl i j)) := .inr (A.hfc i hi j hj)
      have hnl := A.hnl i hi j hj
      have hnet2 := A.Hnet { st.quietNet with wire := st.quietNet.wire ++ msgs }
      refine' exs_forE ?h1
      refine' ev_call ?h2 ?h3 ?h4 ?h5
      case h3 => k_same
      case h2 => exact fn_of hK rfl rfl rfl
      case h4 => k_all
      refine ((c_anew (A := A) (st := { st.quietNet with wire := st.quietNet.wire ++ msgs }) hK hi hj (hls j hj) (hl2 j hj) (hrow j hj)).less (by decide)).mono fun b H' pq0 => ?_
      obtain ⟨t, ks, e1, ht, hsub, hkl, e2⟩ := pq0
      subst e1 e2
      refine ⟨t, _, rfl, HM.put_self .., ?_⟩
      rw [put_drop ht]
      simp only [List.length_cons] at hlen
      refine lp_invJ (EI A st.quietNet i j form pick (fun m => ∃ j, j < A.deg i ∧ ∃ l ∈ ls j, m = A.rowMsg i (lsaV (older (older (B j l) (st.now - T j l)) 1) (P j l) (N j l)) j) js.length (· ∈ ls j)) (fun l => lsaV (older (B j l) (st.now - T j l)) (P j l) (N j l)) ?_ ?_ rfl rfl ks _ _ ⟨⟨msgs, fun _ _ e => e, hM, by omega⟩, n1, n2, n3, rfl, hsub⟩
      · rintro l ks' ρ' H' ⟨⟨msgs', h1, hM', hlen'⟩, m1, m2, m3, m4, m5⟩
        have hl : l ∈ ls j := m5 l (.head _)
        refine exs_forget h1 ?_
        clear h1
        have hnet3 := A.Hnet { st.quietNet with wire := st.quietNet.wire ++ msgs' }
        refine' exs_ex ?i1
        refine' ev_callE ?i2 ?i3 ?i4
        case i3 => k_same
        case i2 => exact fn_of hK rfl rfl rfl
        case i4 =>
        refine evl_cons (EV.of_PE (by k_mem) ?_)
        refine' evl_cons (EV.of_PE (a := .int i) (pe_conv (a := .int (pick.fmod 3)) ?i5 (by rw [hi3])) ?i6)
        case i5 => k_mem
        refine evl_cons ?_
        refine ev_list (evl_cons (EV.of_PE (by k_mem) (evl_nil ⟨Nat.le_of_ble_eq_true rfl, fun t2 ht2 => ?_⟩)))
        refine evl_cons (EV.of_PE (by k_mem) ?_)
        refine evl_nil ?_
        have hls2 := c_lsent (A := A) hK (i := i) (a := older (B j l) (st.now - T j l)) (p := P j l) (n := N j l) (st := { st.quietNet with wire := st.quietNet.wire ++ msgs' }) (js := [j]) hi (fun j' hj' => by rw [List.mem_singleton.mp hj']; exact hj) ht2 (by
          show (st.wire ++ msgs').length + 1 ≤ _
          simp at hlen' ⊢; omega)
        refine (hls2.less (by decide)).thenH fun b => ?_
        refine exs_0 ⟨.inl rfl, ⟨msgs' ++ [A.rowMsg i (lsaV (older (older (B j l) (st.now - T j l)) 1) (P j l) (N j l)) j], fun a ao e => ?_, fun m hm => ?_, ?_⟩, m1, m2, m3, m4, fun k hk => m5 k (.tail _ hk)⟩
        · refine sub_put (A.Hoff _ _ ht2) a ao ?_
          rw [← e]
          simp [St.sends]
        · rcases List.mem_append.mp hm with hm | hm
          · exact hM' m hm
          · rw [List.mem_singleton.mp hm]; exact ⟨j, hj, l, hl, rfl⟩
        · simp at hlen' ⊢; omega
      · rintro ρ' H' ⟨⟨msgs', h1, hM', hlen'⟩, m1, m2, m3, m4, m5⟩
        intro hn
        refine cont_next ?_
        refine exs_forget (H'' := A.H { st.quietNet with wire := st.quietNet.wire ++ msgs' }) (fun a ao e => ?_) ?_
        · have q : a ≠ t := fun q => by subst q; rw [h1 _ _ e] at hn; cases hn
          rw [HM.put_ne _ _ q]; exact h1 _ _ e
        exact exs_0 ⟨.inl rfl, ⟨msgs', rfl, hM', by simp at hlen' ⊢; omega⟩, fun j hj => h4 j (.tail _ hj), m1, m2, m3⟩
    · rintro ρ H ⟨⟨msgs, rfl, hM, hlen⟩, h4, n1, n2, n3⟩
      refine cont_next (exs_0 (cont_next (exs_0 (cont_next (exs_0 ?_)))))
      exact hb c7' msgs hM (by simp at hlen; omega)
  intro c7
  have c7' : form ≠ 7 := by simpa using c7
  by_cases hwe : st.wire = []
  · refine' exs_if1 (c := false) ?j1 ?j2 ?j3
    case j1 => refine' pt_and_f (pt_conv (b := false) ?j4 ?j5); (case j4 => k_memK); (case j5 => simp [hwe])
    case j2 => intro c; cases c
    intro _
    refine' exs_if0 (c := false) ?j6 ?j7 ?j8
    case j6 => refine' pt_conv (b := false) ?j9 ?j10; (case j9 => k_memK); (case j10 => simp [hwe])
    case j7 => intro c; cases c
    intro _
    exact exs_0 (cont_next (exs_0 (cont_next (exs_0 (cont_next (exs_0 (he hwe)))))))
  have hpos : 0 < st.wire.length := List.length_pos_iff.mpr hwe
  have hne : (st.wire.length : Int) ≠ 0 := by omega
  have fm0 : 0 ≤ pick.fmod st.wire.length := by rw [Int.fmod_eq_emod_of_nonneg _ (by omega)]; exact Int.emod_nonneg _ hne
  have fm1 : pick.fmod st.wire.length < st.wire.length := by rw [Int.fmod_eq_emod_of_nonneg _ (by omega)]; exact Int.emod_lt_of_pos _ (by omega)
  refine' exs_if1 (c := form == 6) ?k1 ?k2 ?k3
  case k1 =>
    refine' pt_conv (b := form == 6) ?k4 ?k5
    case k4 => k_memK
    case k5 => simp [hpos]
  case k2 =>
    intro c6
    have c6' : form = 6 := by simpa using c6
    obtain ⟨v, hv⟩ : ∃ v, st.wire[(pick.fmod st.wire.length).toNat]? = some v := ⟨_, List.getElem?_eq_getElem (by omega)⟩
    refine' exs_ex ?l1
    refine' ev_meth ?l2 ?l3 ?l4 F.plainAttrs_list F.slot_list_pop F.type_list_pop ?l5
    case l2 => k_mem
    case l3 => k_all
    case l4 => exact ty_lst (.inl hwire)
    refine (cl_pop hwire (by show st.wire.length ≤ _; omega) fm0 hv).mono fun b H' pq0 => ?_
    obtain ⟨_, e⟩ := pq0
    rw [A.putWire] at e
    subst e
    exact exs_0 (cont_next (exs_0 (cont_next (exs_0 (cont_next (exs_0 (hc hwe c6')))))))
  intro c6
  have c6' : form ≠ 6 := by simpa using c6
  refine' exs_if0 (c := true) ?m1 ?m2 ?m3
  case m1 =>
    refine' pt_conv (b := true) ?m4 ?m5
    case m4 => k_memK
    case m5 => simp [hpos]
  case m3 => intro c; cases c
  intro _
  refine' exs_ex ?n1
  refine' ev_call ?n2 ?n3 ?n4 ?n5
  case n3 => k_same
  case n2 => exact fn_of hK rfl rfl rfl
  case n4 => k_all
  exact ((hd hwe c6' c7' cn).less (by decide)).mono fun b H' e => exs_0 (cont_next (exs_0 (cont_next (exs_0 (cont_next (exs_0 (cont_next (exs_0 e))))))))
end

-- TEnt
section
variable {w : World} {X : Cx PW w}
set_option maxHeartbeats 4000000

open PySem.AutoSeq1 (wpAny_loadPart')
theorem meets_enumT (l : Addr) (items : Array Value) (n : Nat) (dct : Option Addr) (sl : Array (Option Value)) :
    Meets (Builtin.«enumerate.__new__» ⟨[.type "enumerate", .ref l], []⟩) (fun _ R s => s.heap.get? l = some { cls := .type "tuple", dict := dct, data := .seq items n, slots := sl } ∧
      R (.ok (.ret (.ref (s.heap.push { cls := .type "tuple_iterator", data := .fields #[.ref l, .int 0 0] }).objs.size)))
        { s with heap := (s.heap.push { cls := .type "tuple_iterator", data := .fields #[.ref l, .int 0 0] }).push { cls := .type "enumerate", data := .fields #[.none, .bool false, .ref s.heap.objs.size, rawInt 0, .none, .none] } }) :=
  .of_wp fun prog w A R s h => by
    obtain ⟨hp, g, d, tk, os⟩ := s; obtain ⟨hl, h⟩ := h
    have hsub := sub_enumerate
    have hL : Heap.IsTuple (Shared.heap ⟨hp, g, d, tk, os⟩) l items := ⟨_, hl, rfl, n, rfl⟩
    wp_walk using wpAny_loadPart' hl
    refine wpAny_stack_any fun st => wpAny_pure ?_
    split
    · rename_i c _ _ _ _ _
      cases (c == Value.type "enumerate")
      · wp_walk using wpAny_loadPart' hl, wpAny_pyIter_tuple hL
        exact ⟨_, rfl, h⟩
      · wp_walk using wpAny_loadPart' hl, wpAny_pyIter_tuple hL
        exact ⟨_, rfl, h⟩
    · wp_walk using wpAny_loadPart' hl, wpAny_pyIter_tuple hL
      exact ⟨_, rfl, h⟩
section
variable {prog : Program} {w : World} {A : Around} {E : Value → Shared → Prop} {s : Shared}
theorem call_enumT {l : Addr} {items : Array Value} {Q : Value → Shared → Prop} (hL : s.heap.IsTuple l items)
    (h : ∀ h', IsEnum h' (s.heap.objs.size + 1) s.heap.objs.size 0 .none → h'.IsTupleIter s.heap.objs.size l 0 → h'.objs.size = s.heap.objs.size + 2 →
      (∀ b o, s.heap.get? b = some o → h'.get? b = some o) → Q (.ref (s.heap.objs.size + 1)) { s with heap := h' }) :
    wpAny (model prog w) A (call (.type "enumerate") [.ref l]) Q E s := by
  obtain ⟨⟨c, dct, dt, sl⟩, hl, hc, n, hd⟩ := hL
  replace hc : c = .type "tuple" := hc
  replace hd : dt = .seq items n := hd
  subst hc hd
  refine callType_new F.called_enumerate (by decide) (F.typeCall_enumerate_1 _) (F.newCall_enumerate_1 _) (fun obj => F.args_object_init_2 obj _) F.entry_enumerate_new
    (meets_enumT l items n dct sl) ⟨hl, ?_⟩
  have hz : (s.heap.push { cls := .type "tuple_iterator", data := .fields #[.ref l, .int 0 0] }).objs.size = s.heap.objs.size + 1 := Heap.size_push ..
  show _ ∧ _
  rw [hz]
  have he : IsEnum ((s.heap.push { cls := .type "tuple_iterator", data := .fields #[.ref l, .int 0 0] }).push
      { cls := .type "enumerate", data := .fields #[.none, .bool false, .ref s.heap.objs.size, rawInt 0, .none, .none] }) (s.heap.objs.size + 1) s.heap.objs.size 0 .none := by
    have := Heap.get?_push_size (s.heap.push { cls := .type "tuple_iterator", data := .fields #[.ref l, .int 0 0] })
      (o := { cls := .type "enumerate", data := .fields #[.none, .bool false, .ref s.heap.objs.size, rawInt 0, .none, .none] }) rfl
    rw [hz] at this; exact this
  refine ⟨⟨_, he, rfl⟩, h _ he ⟨_, Heap.get?_push_of_some _ (Heap.get?_push_size _ rfl), rfl, rfl⟩ (by rw [Heap.size_push, hz]) fun b o x => Heap.get?_push_of_some _ (Heap.get?_push_of_some _ x)⟩
theorem nextT_item {it l : Addr} {i : Nat} {items} {x : Value} {Q : Value → Shared → Prop} (hit : s.heap.IsTupleIter it l i)
    (hl : s.heap.IsTuple l items) (hx : items[i]? = some x)
    (hQ : ∀ h', h'.IsTupleIter it l (i + 1) → Heap.SameBut it s.heap h' → Q x { s with heap := h' }) :
    wpAny (model prog w) A (Builtin.SmallTypes.nextOf (.ref it)) Q E s := by
  obtain ⟨o, ho, hc, hd⟩ := id hit
  obtain ⟨ol, hol, _, nl, hdl⟩ := hl
  unfold Builtin.SmallTypes.nextOf
  refine wpAny_bind (wpAny_callSpecial?_slot (name := Str.ofString "__next__") hit.typeIs F.slot_tuple_iterator_next
    (wpAny_call_entry F.slot_tuple_iterator_next hit.typeIs F.entry_tuple_iterator_next ?_ (F.args_tuple_iterator_next_1 _)))
  show wpAny _ _ (field (.ref it) 0 >>= _) _ _ s
  refine wpAny_bind (wpAny_field ho hd (x := .ref l) rfl ?_)
  show wpAny _ _ (if (Value.ref l == Value.none) = true then _ else _) _ _ s
  rw [if_neg (show ¬ ((Value.ref l == Value.none) = true) from Bool.false_ne_true)]
  show wpAny _ _ (field (.ref it) 1 >>= _) _ _ s
  refine wpAny_bind (wpAny_field ho hd (x := .int i 0) rfl ?_)
  show wpAny _ _ (seqItems? (.ref l) >>= _) _ _ s
  refine wpAny_bind (wpAny_seqItems hol hdl ?_)
  simp only [Int.toNat_natCast, hx]
  refine wpAny_bind (wpAny_setField ho hd (by simp) (wpAny_pure ⟨x, rfl, wpAny_pure (hQ _ ?_ (Heap.SameBut.update ..))⟩))
  exact ⟨_, Heap.get?_update_self _ ho (Obj.isFreed_of_fields (Obj.data_mapFields hd _)), (Obj.cls_mapFields ..).trans hc, by
    rw [Obj.data_mapFields hd]; simp [rawInt]⟩
theorem nextT_end {it l : Addr} {i : Nat} {items} {Q : Value → Shared → Prop} (hh : A.handled = none)
    (hit : s.heap.IsTupleIter it l i) (hl : s.heap.IsTuple l items) (hx : items[i]? = none)
    (hE : ∀ h' e, Heap.ExtBut it s.heap h' → (∃ o, h'.get? e = some o ∧ o.cls = .type "StopIteration") → E (.ref e) { s with heap := h' }) :
    wpAny (model prog w) A (Builtin.SmallTypes.nextOf (.ref it)) Q E s := by
  obtain ⟨o, ho, hc, hd⟩ := id hit
  obtain ⟨ol, hol, _, nl, hdl⟩ := hl
  unfold Builtin.SmallTypes.nextOf
  refine wpAny_bind (wpAny_callSpecial?_slot (name := Str.ofString "__next__") hit.typeIs F.slot_tuple_iterator_next
    (wpAny_call_entry F.slot_tuple_iterator_next hit.typeIs F.entry_tuple_iterator_next ?_ (F.args_tuple_iterator_next_1 _)))
  show wpAny _ _ (field (.ref it) 0 >>= _) _ _ s
  refine wpAny_bind (wpAny_field ho hd (x := .ref l) rfl ?_)
  show wpAny _ _ (if (Value.ref l == Value.none) = true then _ else _) _ _ s
  rw [if_neg (show ¬ ((Value.ref l == Value.none) = true) from Bool.false_ne_true)]
  show wpAny _ _ (field (.ref it) 1 >>= _) _ _ s
  refine wpAny_bind (wpAny_field ho hd (x := .int i 0) rfl ?_)
  show wpAny _ _ (seqItems? (.ref l) >>= _) _ _ s
  refine wpAny_bind (wpAny_seqItems hol hdl ?_)
  simp only [Int.toNat_natCast, hx]
  refine wpAny_bind (wpAny_rule (wpAny_bind (wpAny_setField ho hd (by simp) ?_)))
  show wpAny _ _ (newExc (.type "StopIteration") [] >>= _) _ _ _
  refine wpAny_bind ?_
  simp only [newExc, newTuple]
  refine wpAny_bind (wpAny_newObj_type ?_ (by size_fits))
  refine wpAny_bind (m := firstArgMember _ _) (wpAny_of_eq (a := Value.none) (by first | rfl | (simp only [firstArgMember]; rfl)) ?_)
  refine wpAny_newObj_type ?_ (by size_fits)
  simp only [raiseNew]
  refine wpAny_bind (wpAny_handled ?_)
  first | rw [show A.in1.handled = none from hh] | rw [hh]
  refine wpAny_bind (wpAny_pure (wpAny_throw ?_))
  exact hE _ _ (((Heap.SameBut.update ..).extBut.push _).push _) ⟨_, Heap.get?_push_size _ rfl, rfl⟩
end
theorem draws_tuple {prog : Program} {w : World} {A : Around} (hh : A.handled = none) (it l : Addr) (hne : l ≠ it) (items : Array Value) :
    Draws prog w A it [it, l] items.size (fun i v => items[i]? = some v) (fun i h => h.IsTupleIter it l i ∧ h.IsTuple l items) where
  live := fun _ _ st => let ⟨o, ho, _⟩ := st.1; ⟨o, ho⟩
  frame := fun _ _ _ st hk => ⟨st.1.at fun o e => hk it (by simp) o e, st.2.at fun o e => hk l (by simp) o e⟩
  item := fun i s Q E hi st hQ => by
    refine nextT_item st.1 st.2 (x := items[i]) (by simp [hi]) fun h' hit' hs' => ?_
    exact hQ _ h' s.toks (by simp [hi]) ⟨hit', st.2.extBut hs'.extBut hne⟩ hs'
  done := fun s Q E st hE => nextT_end hh st.1 st.2 (by simp) hE
section
variable {nm : Str} {sc : Scope} {L fa : Addr} {cd : Value} {n : Nat} {ρ : List (Str × AV)} {H : HM}
theorem GL.tup_off {s : Shared} (G : GL X L ρ H s) {a : Addr} {o : Obj} (e : s.heap.get? a = some o) (t : IsTupO o) : H a = none ∧ a ≠ L := by
  constructor
  · cases q : H a with
    | none => rfl
    | some ao =>
      obtain ⟨o', e', n'⟩ := (G.obj q).there
      rw [e] at e'; cases e'
      exact absurd t n'
  · intro q
    subst q
    obtain ⟨o', e', n'⟩ := (G.good.ob a (.ns ρ) (HM.put_self ..)).1.there
    rw [e] at e'; cases e'
    exact n' t
theorem ex_enum_tup {elts : List Expr} {k : Nat} {p : Pos} {func arg : Expr} {body : List Stmt} {pos pos' : Pos} {xs : List AV} {Q : AF → List (Str × AV) → HM → Prop} (hf : PE X (n + 1) nm sc L fa cd ρ H func (.ty "enumerate")) (ha : PE X (n + 1) nm sc L fa cd ρ H arg (.tup xs))
    (l : Lp X n nm sc L fa cd (.Tuple elts k p) body (enumA 0 xs) ρ H Q)
    (hst : starEach [arg] (envOf nm sc L fa cd) = (false, eval arg (envOf nm sc L fa cd)) :: starEach [] (envOf nm sc L fa cd) := by rfl)
    (he : eval (.Call func [arg] [] pos') (envOf nm sc L fa cd) = (do callWith pos' (← eval func (envOf nm sc L fa cd)) [] (backTo pos' (starEach [arg] (envOf nm sc L fa cd))) (backToKw pos' (keywordEach [] (envOf nm sc L fa cd)))) := by rfl)
    (hs : ∀ x, foldedSetIterable (.Call func [arg] [] pos') (envOf nm sc L fa cd) x = pure x := by intro _; rfl) : EX X n nm sc L fa cd ρ H (.For (.Tuple elts k p) (.Call func [arg] [] pos') body [] pos) Q := fun A s ok G =>
  wpAny_For (hs := hs) (Call_ (he := he) (stepP (hf A s ok G) fun v s1 i1 G1 x1 => by
    first | apply i1.ref_elim | apply i1.bool_elim | apply i1.ty_elim | apply i1.bi_elim | cases i1
    refine callWith_type1 (he := hst) (stepP (spliced_sound (PEs.cons ha hst .nil) ok G1) fun vs s2 i2 G2 x2 => ?_)
    obtain ⟨u, rfl, iu⟩ := i2.one
    cases iu with
    | @tup a o items c _ e1 c1 d1 il =>
    have hlT : s2.heap.IsTuple a items := ⟨_, e1, c1, _, d1⟩
    obtain ⟨off, hL⟩ := G2.tup_off e1 ⟨c1, _, _, d1⟩
    have ha2 : a < s2.heap.objs.size := Heap.lt_size e1
    refine call_enumT hlT fun h' hen hit hsz hk => ?_
    refine wpAny_pyIter_enum hen ?_
    obtain ⟨G3, x3⟩ := G2.grow (s' := { s2 with heap := h' }) hk rfl rfl
    have n1 := G2.new (Heap.get?_none_of_le (h := s2.heap) (Nat.le_refl _))
    have n2 := G2.new (Heap.get?_none_of_le (h := s2.heap) (Nat.le_succ _))
    have z1 : s2.heap.get? s2.heap.objs.size = none := Heap.get?_none_of_le (Nat.le_refl _)
    have z2 : s2.heap.get? (s2.heap.objs.size + 1) = none := Heap.get?_none_of_le (Nat.le_succ _)
    have W := KTurns.ofWalksU (elts := elts) (k := k) (pos := p) (WalksT.toU (WalksT.enumerateD (draws_tuple (prog := PW) (w := w) (A := A.in1) ok.hd s2.heap.objs.size a (Nat.ne_of_lt ha2) items) (s2.heap.objs.size + 1) (Nat.succ_ne_self _) (by
      simp only [List.mem_cons, List.not_mem_nil, or_false, not_or]
      exact ⟨Nat.succ_ne_self _, Nat.ne_of_gt (Nat.lt_succ_of_lt ha2)⟩) (by simp)))
    have hlen : items.size = (enumA 0 xs).length := by rw [enumA_len, ← il.length, Array.length_toList]
    rw [hlen] at W
    refine loop_sound W ok (fun i v h p tk => ?_) (fun i h st b hb => ?_) (fun i v h st b hb => ?_) (fun b hb => ?_) (fun b hb => ?_) ⟨⟨_, hen⟩, hit, hlT.at fun o e => hk _ o e⟩ G3 ((x1.trans x2).trans x3) l
    · obtain ⟨T, vals, rfl, ⟨t, y, hy, rfl⟩, hT⟩ := p
      have ii := (il.mono x3.tup).mono tk
      have hy' : items.toList[i]? = some y := by rw [Array.getElem?_toList]; exact hy
      have hlt : i < xs.length := by rw [← il.length]; exact (List.getElem?_eq_some_iff.mp hy').1
      obtain ⟨u, e, iu⟩ := ii.get (List.getElem?_eq_getElem hlt)
      rw [hy'] at e; cases e
      refine ⟨_, enumA_get xs 0 i _ (List.getElem?_eq_getElem hlt), ?_⟩
      rw [Nat.zero_add]
      exact tup2_is hT iu
    · have hb' : b = s2.heap.objs.size + 1 ∨ b = s2.heap.objs.size := by simpa using hb
      rcases hb' with rfl | rfl
      · obtain ⟨⟨old, e⟩, _⟩ := st
        exact ⟨_, e, fun ⟨_, _, _, q⟩ => by cases q⟩
      · obtain ⟨_, ⟨o, e, c, d⟩, _⟩ := st
        exact ⟨o, e, fun ⟨_, _, _, q⟩ => by rw [d] at q; cases q⟩
    · obtain ⟨T, vals, _, _, _, ⟨y, e⟩, ⟨⟨o, e2, c2, d2⟩, _⟩, _⟩ := st
      have hb' : b = s2.heap.objs.size + 1 ∨ b = s2.heap.objs.size := by simpa using hb
      rcases hb' with rfl | rfl
      · exact ⟨_, e, fun ⟨_, _, _, q⟩ => by cases q⟩
      · exact ⟨o, e2, fun ⟨_, _, _, q⟩ => by rw [d2] at q; cases q⟩
    · have hb' : b = s2.heap.objs.size + 1 ∨ b = s2.heap.objs.size := by simpa using hb
      rcases hb' with rfl | rfl
      · exact ⟨(x1.trans x2).none z2, n2.1, n2.2.1⟩
      · exact ⟨(x1.trans x2).none z1, n1.1, n1.2.1⟩
    · have hb' : b = s2.heap.objs.size + 1 ∨ b = s2.heap.objs.size ∨ b = a := by simpa using hb
      rcases hb' with rfl | rfl | rfl
      · exact ⟨⟨_, hen⟩, n2.2.2.1, n2.2.2.2⟩
      · obtain ⟨o, e, _⟩ := hit; exact ⟨⟨o, e⟩, n1.2.2.1, n1.2.2.2⟩
      · exact ⟨⟨_, hk _ _ e1⟩, off, hL⟩))

/-- for over a dict's keys, the dict standing -/
theorem ex_for_td {elts : List Expr} {k : Nat} {p : Pos} {iter : Expr} {body : List Stmt} {pos : Pos} {d : Addr} {m : Mp} {Q : AF → List (Str × AV) → HM → Prop} (hi : PE X (n + 1) nm sc L fa cd ρ H iter (.ref d)) (hS : X.S d = some (.td m)) (hns : (d == sysModules) = false)
    (l : Lp X n nm sc L fa cd (.Tuple elts k p) body (m.map fun e => .tup (e.1.map .int)) ρ H Q) (hs : ∀ x, foldedSetIterable iter (envOf nm sc L fa cd) x = pure x := by intro _; rfl) : EX X n nm sc L fa cd ρ H (.For (.Tuple elts k p) iter body [] pos) Q := fun A s ok G =>
  wpAny_For (hs := hs) (stepP (hi A s ok G) fun v s1 i1 G1 x1 => by
    first | apply i1.ref_elim | apply i1.bool_elim | apply i1.ty_elim | apply i1.bi_elim | cases i1
    obtain ⟨xs, hx, hmx⟩ := G1.sobj hS
    obtain ⟨o, es, ep, ho, hc, hdat, he, his, hn⟩ := id hx
    have off := (G1.good.st d _ hS).2
    have hL : d ≠ L := fun q => by subst q; rw [HM.put_self] at off; cases off
    rw [HM.put_ne _ _ hL] at off
    have hraw : DRaw s1.heap d es ep := ⟨o, ho, hc, hdat⟩
    refine td_iter hns hraw ?_
    have fr := G1.new (fresh_size s1.heap)
    obtain ⟨G', x'⟩ := G1.grow (s' := { s1 with heap := s1.heap.push { cls := .type "dict_keyiterator", data := .fields #[.ref d, .int 0 0, .int es.size 0, .int ep 0] } }) (fun b o e => Heap.get?_push_of_some _ e) rfl rfl
    have hne : d ≠ s1.heap.objs.size := Nat.ne_of_lt (Heap.lt_size ho)
    have hel : es.size = (m.map fun e => AV.tup (e.1.map .int)).length := by rw [size_of_entries he, List.length_map, hmx.length]
    have W := KTurns.ofWalks (target := .Tuple elts k p) (td_walks (prog := PW) (w := w) (A := A) ok.hd s1.heap.objs.size d hne es ep) fun i v s Q E st q => letGo_keyiter st.1 q
    rw [hel] at W
    refine loop_sound W ok (fun i v h p tk => ?_) (fun i h st b hb => ?_) (fun i v h st b hb => ?_) (fun b hb => ?_) (fun b hb => ?_) ⟨⟨_, Heap.get?_push_size _ rfl, rfl, by rw [← hel]; rfl⟩, hraw.at fun o e => Heap.get?_push_of_some _ e⟩ G' (x1.trans x') l
    · obtain ⟨en, e2, rfl⟩ := p
      rw [entry_at he] at e2
      obtain ⟨x, e4, e5⟩ := Option.map_eq_some_iff.mp e2
      have e6 : (xs.map (·.1))[i]? = some x.1 := by rw [List.getElem?_map, e4]; rfl
      rw [hmx.keys, List.getElem?_map] at e6
      obtain ⟨y, e7, e8⟩ := Option.map_eq_some_iff.mp e6
      refine ⟨.tup (y.1.map .int), by rw [List.getElem?_map, e7]; rfl, ?_⟩
      have z := (key_is (his x (List.mem_of_getElem? e4))).mono (x'.tup.trans tk)
      rw [e8, ← e5]
      exact z
    · rw [List.mem_singleton.mp hb]
      obtain ⟨o, e, c, d⟩ := st.1
      exact ⟨o, e, fun ⟨_, _, _, q⟩ => by rw [d] at q; cases q⟩
    · rw [List.mem_singleton.mp hb]
      obtain ⟨o, e, c, d⟩ := st.2.1
      exact ⟨o, e, fun ⟨_, _, _, q⟩ => by rw [d] at q; cases q⟩
    · rw [List.mem_singleton.mp hb]; exact ⟨x1.none (fresh_size _), fr.1, fr.2.1⟩
    · have hb' : b = s1.heap.objs.size ∨ b = d := by simpa using hb
      rcases hb' with rfl | rfl
      · exact ⟨⟨_, Heap.get?_push_size _ rfl⟩, fr.2.2.1, fr.2.2.2⟩
      · exact ⟨⟨o, Heap.get?_push_of_some _ ho⟩, off, hL⟩)
end
end

-- TStt
section
variable {w : World} {X : Cx PW w}
set_option maxHeartbeats 4000000

variable {A : Lay X}
noncomputable def hPair (hv : Nat → Nat → Int) (i s : Nat) : List Int × AV := ([(i : Int), (s : Int)], .int (hv i s))
noncomputable def oPair (A : Lay X) (ov : Nat → Nat → Nat → Int) (i s j : Nat) : List Int × AV := ([(i : Int), (A.way i j : Int), (s : Int)], .int (ov i j s))
noncomputable def hL (hv : Nat → Nat → Int) (is : List Nat) : Mp := is.flatMap fun i => [0, 1].map fun s => hPair hv i s
noncomputable def oL (A : Lay X) (ov : Nat → Nat → Nat → Int) (is : List Nat) : Mp := is.flatMap fun i => [0, 1].flatMap fun s => (List.range (A.deg i)).map fun j => oPair A ov i s j
theorem storeA_new {κ : Type} [DecidableEq κ] (k : κ) (v : AV) : ∀ (m : List (κ × AV)), (∀ e ∈ m, e.1 ≠ k) → storeA m k v = m ++ [(k, v)]
  | [], _ => rfl
  | (k', v') :: m, h => by
    unfold storeA
    rw [if_neg (h _ (.head _)), storeA_new k v m fun e he => h e (.tail _ he)]
    rfl
structure WI (A : Lay X) (hv : Nat → Nat → Int) (ov : Nat → Nat → Nat → Int) (st : St) (h o : Addr) (js : List Nat) (ρ : List (Str × AV)) (H : HM) : Prop where
  ex : ∃ is, is ++ js = [0, 1, 2] ∧ H = ((A.H st).put h (.td (hL hv is))).put o (.td (oL A ov is))
  net : ρ.lookup (Str.ofString "net") = some (.ref (A.addr sNet))
  fhv : ρ.lookup (Str.ofString "have") = some (.ref h)
  fov : ρ.lookup (Str.ofString "owed") = some (.ref o)
structure WJ (A : Lay X) (hv : Nat → Nat → Int) (ov : Nat → Nat → Nat → Int) (st : St) (h o : Addr) (is : List Nat) (i : Nat) (ss : List Nat) (ρ : List (Str × AV)) (H : HM) : Prop where
  ex : ∃ ds, ds ++ ss = [0, 1] ∧ H = ((A.H st).put h (.td (hL hv is ++ ds.map (hPair hv i)))).put o (.td (oL A ov is ++ ds.flatMap fun s => (List.range (A.deg i)).map fun j => oPair A ov i s j))
  net : ρ.lookup (Str.ofString "net") = some (.ref (A.addr sNet))
  fhv : ρ.lookup (Str.ofString "have") = some (.ref h)
  fov : ρ.lookup (Str.ofString "owed") = some (.ref o)
  at_ : ρ.lookup (Str.ofString "at") = some (.int i)
  nd : ρ.lookup (Str.ofString "node") = some (.ref (A.nd i))
structure WK (A : Lay X) (ov : Nat → Nat → Nat → Int) (st : St) (h o : Addr) (hm om : Mp) (i s : Nat) (js : List Nat) (ρ : List (Str × AV)) (H : HM) : Prop where
  ex : ∃ ds, ds ++ js = List.range (A.deg i) ∧ H = ((A.H st).put h (.td hm)).put o (.td (om ++ ds.map (oPair A ov i s)))
  net : ρ.lookup (Str.ofString "net") = some (.ref (A.addr sNet))
  fhv : ρ.lookup (Str.ofString "have") = some (.ref h)
  fov : ρ.lookup (Str.ofString "owed") = some (.ref o)
  at_ : ρ.lookup (Str.ofString "at") = some (.int i)
  nd : ρ.lookup (Str.ofString "node") = some (.ref (A.nd i))
  sp : ρ.lookup (Str.ofString "spot") = some (.int s)
  key : ρ.lookup (Str.ofString "key") = some (key3 ((s : Int) + 1))
theorem mem3 {is js : List Nat} {i : Nat} (h : is ++ i :: js = [0, 1, 2]) : i < 3 ∧ i ∉ is ∧ is.length ≤ 3 ∧ (∀ k ∈ is, k < 3) := by
  have hn : (is ++ i :: js).Nodup := by rw [h]; decide
  have hm : i ∈ is ++ i :: js := by simp
  have hk : ∀ k ∈ is, k ∈ is ++ i :: js := fun k hk => List.mem_append_left _ hk
  have hl := congrArg List.length h
  rw [h] at hm hk
  simp at hm hl
  refine ⟨by omega, fun q => ?_, by omega, fun k q => by have := hk k q; simp at this; omega⟩
  rw [List.nodup_append] at hn
  exact hn.2.2 i q i (.head _) rfl
theorem mem2 {is js : List Nat} {i : Nat} (h : is ++ i :: js = [0, 1]) : i < 2 ∧ i ∉ is ∧ is.length ≤ 2 := by
  have hn : (is ++ i :: js).Nodup := by rw [h]; decide
  have hm : i ∈ is ++ i :: js := by simp
  have hl := congrArg List.length h
  rw [h] at hm
  simp at hm hl
  refine ⟨by omega, fun q => ?_, by omega⟩
  rw [List.nodup_append] at hn
  exact hn.2.2 i q i (.head _) rfl
theorem memr {is js : List Nat} {i n : Nat} (h : is ++ i :: js = List.range n) : i < n ∧ i ∉ is ∧ is.length ≤ n ∧ (∀ k ∈ is, k < n) := by
  have hn : (is ++ i :: js).Nodup := by rw [h]; exact List.nodup_range
  have hm : i ∈ is ++ i :: js := by simp
  have hk : ∀ k ∈ is, k ∈ is ++ i :: js := fun k hk => List.mem_append_left _ hk
  have hl := congrArg List.length h
  rw [h] at hm hk
  simp at hm hl
  refine ⟨by omega, fun q => ?_, by omega, fun k q => by have := hk k q; simpa using this⟩
  rw [List.nodup_append] at hn
  exact hn.2.2 i q i (.head _) rfl
theorem hL_len (hv : Nat → Nat → Int) (is : List Nat) : (hL hv is).length = 2 * is.length := by
  unfold hL
  induction is with
  | nil => rfl
  | cons a l ih => rw [List.flatMap_cons, List.length_append, ih]; simp; omega
theorem oL_len (A : Lay X) (ov : Nat → Nat → Nat → Int) (is : List Nat) (h : ∀ k ∈ is, k < 3) : (oL A ov is).length ≤ 4 * is.length := by
  unfold oL
  induction is with
  | nil => simp
  | cons a l ih =>
    have := ih fun k hk => h k (.tail _ hk)
    rw [List.flatMap_cons, List.length_append]
    have hd := A.hdeg a (h a (.head _))
    simp at this ⊢
    omega
theorem hL_key {hv : Nat → Nat → Int} {is ds : List Nat} {i s : Nat} (h1 : i ∉ is) (h2 : s ∉ ds) : ∀ e ∈ hL hv is ++ ds.map (hPair hv i), e.1 ≠ [(i : Int), (s : Int)] := by
  intro e he q
  rcases List.mem_append.mp he with he | he
  · obtain ⟨k, hk, h3⟩ := List.mem_flatMap.mp he
    obtain ⟨t, _, rfl⟩ := List.mem_map.mp h3
    simp only [hPair, List.cons.injEq] at q
    have : k = i := by omega
    exact h1 (this ▸ hk)
  · obtain ⟨t, ht, rfl⟩ := List.mem_map.mp he
    simp only [hPair, List.cons.injEq] at q
    have : t = s := by omega
    exact h2 (this ▸ ht)
theorem oL_key {ov : Nat → Nat → Nat → Int} {is ds es : List Nat} {i s j : Nat} (hi : i < 3) (hj : j < A.deg i) (he' : ∀ k ∈ es, k < A.deg i) (h1 : i ∉ is) (h2 : s ∉ ds) (h3 : j ∉ es) :
    ∀ e ∈ (oL A ov is ++ ds.flatMap fun s => (List.range (A.deg i)).map fun j => oPair A ov i s j) ++ es.map (oPair A ov i s), e.1 ≠ [(i : Int), (A.way i j : Int), (s : Int)] := by
  intro e he q
  rcases List.mem_append.mp he with he | he
  · rcases List.mem_append.mp he with he | he
    · obtain ⟨k, hk, h4⟩ := List.mem_flatMap.mp he
      obtain ⟨t, _, h5⟩ := List.mem_flatMap.mp h4
      obtain ⟨u, _, rfl⟩ := List.mem_map.mp h5
      simp only [oPair, List.cons.injEq] at q
      have : k = i := by omega
      exact h1 (this ▸ hk)
    · obtain ⟨t, ht, h5⟩ := List.mem_flatMap.mp he
      obtain ⟨u, _, rfl⟩ := List.mem_map.mp h5
      simp only [oPair, List.cons.injEq] at q
      have : t = s := by omega
      exact h2 (this ▸ ht)
  · obtain ⟨u, hu, rfl⟩ := List.mem_map.mp he
    simp only [oPair, List.cons.injEq] at q
    have : A.way i u = A.way i j := by omega
    have := A.way_inj hi (he' u hu) hj this
    exact h3 (this ▸ hu)
theorem flat_len {α : Type} (n : Nat) (f : Nat → Nat → α) (ds : List Nat) : (ds.flatMap fun s => (List.range n).map fun j => f s j).length = n * ds.length := by
  induction ds with
  | nil => rfl
  | cons a l ih => rw [List.flatMap_cons, List.length_append, List.length_map, List.length_range, List.length_cons, ih, Nat.mul_succ, Nat.add_comm]
theorem eqv_body (k : Int) : PyData.eqv (.tuple [.str "router", .int k, .tuple []]) (.tuple [.str "router", .int k, .tuple []]) = true := by simp [PyData.eqv, PyData.eqvAll]
theorem c_state (hK : IsK X) {st : St} {hv : Nat → Nat → Int} {ov : Nat → Nat → Nat → Int}
    (hh : ∀ i < 3, ∀ s : Nat, s < 2 → (lookA (st.rows i) [1, 7, (s : Int) + 1] = none ∧ hv i s = 0) ∨ ∃ b t, lookA (st.rows i) [1, 7, (s : Int) + 1] = some (.tup [lsaV b s (hv i s), .int t]))
    (ho : ∀ i < 3, ∀ j < A.deg i, ∀ s : Nat, s < 2 → (lookA (st.owed i j) [1, 7, (s : Int) + 1] = none ∧ ov i j s = 0) ∨ ∃ b, lookA (st.owed i j) [1, 7, (s : Int) + 1] = some (lsaV b s (ov i j s))) :
    CL X 120 (.ref 343) [.ref (A.addr sNet)] (A.H st) fun b H' => ∃ h o, b = .tup [.ref h, .ref o] ∧ A.H st h = none ∧ A.H st o = none ∧ h ≠ o ∧ H' = ((A.H st).put h (.td (hL hv [0, 1, 2]))).put o (.td (oL A ov [0, 1, 2])) := by
  refine cl_def (n := 118) (fn_of hK (f := 343) rfl rfl rfl) (names := ["net"]) (by l_fit) (by decide) (by decide) fun L => ?_
  have hnet := A.Hnet st
  refine exs_sw2E ?_
  refine ev_tuple ?_
  refine evl_cons ?_
  refine ev_dict0t fun h hh0 => ?_
  refine evl_cons ?_
  refine ev_dict0t fun o ho0 => ?_
  refine evl_nil ⟨Nat.le_of_ble_eq_true rfl, _, _, rfl, ?_⟩
  have hne : o ≠ h := fun e => by subst e; rw [HM.put_self] at ho0; cases ho0
  rw [HM.put_ne _ _ hne] at ho0
  have off2 : ∀ {x : Addr} {ao : AO} {a b : AO}, A.H st x = some ao → (((A.H st).put h a).put o b) x = some ao := fun {x ao a b} e => by
    rw [HM.put_ne, HM.put_ne]
    · exact e
    · intro q; subst q; rw [hh0] at e; cases e
    · intro q; subst q; rw [ho0] at e; cases e
  have hath : ∀ {a b : AO}, (((A.H st).put h a).put o b) h = some a := fun {a b} => by rw [HM.put_ne _ _ (Ne.symm hne)]; exact HM.put_self ..
  have hpo : ∀ (a b c : AO), (((A.H st).put h a).put o b).put o c = ((A.H st).put h a).put o c := fun a b c => by funext x; unfold HM.put; split <;> rfl
  have hph : ∀ (a b c : AO), (((A.H st).put h a).put o b).put h c = ((A.H st).put h c).put o b := fun a b c => by
    funext x; unfold HM.put
    by_cases q : x = h
    · subst q; simp [Ne.symm hne]
    · simp [q]
  have hnodes := A.hnodes
  have hnet := off2 (a := .td []) (b := .td []) (A.Hnet st)
  refine exs_c ?_
  refine' ex_enum_lst ?a1 ?a2 A.hnodes ?a3
  case a1 => exact pe_enum hK rfl (by decide) rfl
  case a2 => k_mem
  case a3 =>
  rw [show enumA 0 [.ref (A.nd 0), .ref (A.nd 1), .ref (A.nd 2)] = [0, 1, 2].map fun (i : Nat) => .tup [.int i, .ref (A.nd i)] from rfl]
  refine lp_invP (WI A hv ov st h o) (fun (i : Nat) => .int i) (fun i => .ref (A.nd i)) ?_ ?_ rfl rfl rfl _ _ _ ⟨⟨[], rfl, rfl⟩, rfl, rfl, rfl⟩
  · rintro i js ρ H ⟨⟨is, hsp, rfl⟩, n1, n2, n3⟩
    obtain ⟨hi, hni, hil, hik⟩ := mem3 hsp
    refine exs_c ?_
    refine' ex_enum_tup ?b1 ?b2 ?b3
    case b1 => exact pe_enum hK rfl (by decide) rfl
    case b2 => k_mem
    case b3 =>
    rw [show enumA 0 [.tup [.int 1, .int 7, .int 1], .tup [.int 1, .int 7, .int 2]] = [0, 1].map fun (s : Nat) => .tup [.int s, key3 ((s : Int) + 1)] from rfl]
    refine lp_invP (WJ A hv ov st h o is i) (fun (s : Nat) => .int s) (fun (s : Nat) => key3 ((s : Int) + 1)) ?_ ?_ rfl rfl rfl _ _ _ ⟨⟨[], rfl, by simp⟩, n1, n2, n3, rfl, rfl⟩
    · rintro s ss ρ H ⟨⟨ds, hsp2, rfl⟩, n1, n2, n3, n4, n5⟩
      obtain ⟨hs, hns, hsl⟩ := mem2 hsp2
      have hnet := off2 (a := .td (hL hv is ++ ds.map (hPair hv i))) (b := .td (oL A ov is ++ ds.flatMap fun s => (List.range (A.deg i)).map fun j => oPair A ov i s j)) (A.Hnet st)
      have hrw := off2 (a := .td (hL hv is ++ ds.map (hPair hv i))) (b := .td (oL A ov is ++ ds.flatMap fun s => (List.range (A.deg i)).map fun j => oPair A ov i s j)) (A.Hrows st hi)
      have D := A.hdb i hi
      have hnd := A.hnd i hi
      have hlen1 := hL_len hv is
      have hlen2 := oL_len A ov is hik
      have hlook : ∃ lsa, PC X 40 (.ref 93) [.ref (A.db i), .tup [.int 1, .int 7, .int ((s : Int) + 1)], .int st.now] (((A.H st).put h (.td (hL hv is ++ ds.map (hPair hv i)))).put o (.td (oL A ov is ++ ds.flatMap fun s => (List.range (A.deg i)).map fun j => oPair A ov i s j))) lsa ∧ ((lsa = .none ∧ hv i s = 0) ∨ ∃ b, lsa = lsaV b s (hv i s)) := by
        rcases hh i hi s hs with ⟨e1, e2⟩ | ⟨b, t, e1⟩
        · exact ⟨_, c_look0 hK D hrw e1, .inl ⟨rfl, e2⟩⟩
        · exact ⟨_, c_look1 hK D hrw e1, .inr ⟨_, rfl⟩⟩
      obtain ⟨lsa, hlk, hcase⟩ := hlook
      refine' exs_nm (a := lsa) ?c1 ?c2
      case c1 =>
        refine' ev_db (by assumption) ?d2 D ?d3 ?d4 ?d5 ?d6 ?d7 ?d8
        case d2 => k_mem
        case d3 => k_all
        case d5 => rfl
        case d4 => exact fn_of hK rfl rfl rfl
        case d6 => rfl
        case d7 => decide
        case d8 => exact hlk.less (by decide)
      case c2 =>
      clear hlk hrw
      refine' exs_as (a := .int (hv i s)) ?e1 ?e2
      case e1 =>
        rcases hcase with ⟨rfl, e2⟩ | ⟨b, rfl⟩
        · refine' pe_conv (a := .int 0) (pe_if_t ?e3 ?e4) (by rw [e2])
          case e3 => k_memK
          case e4 => k_mem
        · refine' pe_if_f ?e5 ?e6
          case e5 => k_memK
          case e6 => k_mem
      case e2 =>
      refine' tg_sub ?f1 ?f2 ?f3 ?f4
      case f1 => k_mem
      case f2 => k_mem
      case f3 => exact set_td2 hath (by simp only [List.length_append, List.length_map]; omega)
      rw [storeA_new _ _ _ (hL_key hni hns), hph]
      clear hnet
      rw [List.append_assoc, show [([(i : Int), (s : Int)], AV.int (hv i s))] = [s].map (hPair hv i) from rfl, ← List.map_append]
      refine' exs_if0 (c := false) ?g1 ?g2 ?g3
      case g2 => intro c; cases c
      case g1 =>
        rcases hcase with ⟨rfl, e2⟩ | ⟨b, rfl⟩
        · refine' pt_and_f (pt_conv (b := false) ?g4 ?g5)
          case g4 => k_memK
          case g5 => rfl
        · refine' pt_and (c := true) (d := false) (pt_conv (b := true) ?g6 ?g7) fun _ => pt_and_f (pt_conv (b := false) ?g8 ?g9)
          case g6 => k_memK
          case g7 => rfl
          case g8 => k_memK
          case g9 => rw [eqv_body]; rfl
      intro _
      refine exs_c ?_
      refine' ex_enum_lst ?h1 ?h2 (A.hfl i hi) ?h3
      case h1 => exact pe_enum hK rfl (by decide) rfl
      case h2 => k_mem
      case h3 =>
      rw [enum_faces A hi]
      refine lp_invP (WK A ov st h o (hL hv is ++ (ds ++ [s]).map (hPair hv i)) (oL A ov is ++ ds.flatMap fun s => (List.range (A.deg i)).map fun j => oPair A ov i s j) i s) (fun (j : Nat) => .int j) (fun j => .ref (A.fc i j)) ?_ ?_ rfl rfl rfl _ _ _ ⟨⟨[], rfl, by simp⟩, n1, n2, n3, n4, n5, rfl, rfl⟩
      · rintro j js ρ H ⟨⟨es, hsp3, rfl⟩, n1, n2, n3, n4, n5, n6, n7⟩
        obtain ⟨hj, hnj, hjl, hjk⟩ := memr hsp3
        have hdg := A.hdeg i hi
        have hfc : At X (((A.H st).put h (.td (hL hv is ++ (ds ++ [s]).map (hPair hv i)))).put o (.td ((oL A ov is ++ ds.flatMap fun s => (List.range (A.deg i)).map fun j => oPair A ov i s j) ++ es.map (oPair A ov i s)))) (A.fc i j) (faceD j (A.nl i j)) := .inr (A.hfc i hi j hj)
        have hnl := A.hnl i hi j hj
        have hmd := A.hmd i hi j hj
        have hwl := A.hwl i hi
        have g2 := A.way_get hj
        have how := off2 (a := .td (hL hv is ++ (ds ++ [s]).map (hPair hv i))) (b := .td ((oL A ov is ++ ds.flatMap fun s => (List.range (A.deg i)).map fun j => oPair A ov i s j) ++ es.map (oPair A ov i s))) (A.Howed st hi hj)
        have hrow : ∃ row, (lookA (st.owed i j) [1, 7, (s : Int) + 1]).getD .none = row ∧ ((row = .none ∧ ov i j s = 0) ∨ ∃ b, row = lsaV b s (ov i j s)) := by
          rcases ho i hi j hj s hs with ⟨e1, e2⟩ | ⟨b, e1⟩
          · exact ⟨_, rfl, .inl ⟨by rw [e1]; rfl, e2⟩⟩
          · exact ⟨_, rfl, .inr ⟨b, by rw [e1]; rfl⟩⟩
        obtain ⟨row, hr1, hr2⟩ := hrow
        refine' exs_nm (a := row) ?k1 ?k2
        case k1 =>
          rw [← hr1]
          refine' ev_meth ?v1 ?v2 ?v3 F.plainAttrs_dict F.slot_dict_get F.type_dict_get ?v4
          case v1 => k_mem
          case v2 => k_all
          case v3 => exact ty_td (.inl how)
          case v4 => exact cl_dget3 how
        case k2 =>
        clear hr1
        refine' exs_as (a := .int (ov i j s)) ?l1 ?l2
        case l1 =>
          rcases hr2 with ⟨rfl, e2⟩ | ⟨b, rfl⟩
          · refine' pe_conv (a := .int 0) (pe_if_t ?l3 ?l4) (by rw [e2])
            case l3 => k_memK
            case l4 => k_mem
          · refine' pe_if_f ?l5 ?l6
            case l5 => k_memK
            case l6 => k_mem
        case l2 =>
        refine' tg_sub ?m1 ?m2 ?m3 ?m4
        case m1 => k_mem
        case m2 =>
          refine' pe_tuple (as := [.int i, .int (A.way i j), .int s]) ?m5 (hz := Nat.le_of_ble_eq_true rfl)
          refine' PEs.one ?m6 (PEs.one ?m7 (PEs.one ?m8 .nil))
          case m6 => k_mem
          case m8 => k_mem
          case m7 =>
            refine' pe_sub ?m9 ?m10 (ASub.lst (.inr hwl) (by omega) (by omega) g2)
            case m9 => k_mem
            case m10 => k_mem
        case m3 => exact set_td3 (HM.put_self ..) (by
          have := flat_len (A.deg i) (fun s j => oPair A ov i s j) ds
          have h2 : A.deg i * ds.length ≤ 2 * ds.length := Nat.mul_le_mul_right _ (by omega)
          simp only [List.length_append, List.length_map]; omega)
        rw [storeA_new _ _ _ (oL_key hi hj hjk hni hns hnj), hpo]
        refine exs_0 ⟨.inl rfl, ⟨es ++ [j], by rw [← hsp3]; simp, ?_⟩, n1, n2, n3, n4, n5, n6, n7⟩
        rw [List.append_assoc (oL A ov is ++ _), show es.map (oPair A ov i s) ++ [([(i : Int), (A.way i j : Int), (s : Int)], AV.int (ov i j s))] = (es ++ [j]).map (oPair A ov i s) from by rw [List.map_append]; rfl]
      · rintro ρ H ⟨⟨es, hsp3, rfl⟩, n1, n2, n3, n4, n5, n6, n7⟩
        rw [List.append_nil] at hsp3
        subst hsp3
        refine cont_next (exs_0 ⟨.inl rfl, ⟨ds ++ [s], by rw [← hsp2]; simp, ?_⟩, n1, n2, n3, n4, n5⟩)
        rw [List.flatMap_append, List.append_assoc]
        simp
    · rintro ρ H ⟨⟨ds, hsp2, rfl⟩, n1, n2, n3, n4, n5⟩
      rw [List.append_nil] at hsp2
      subst hsp2
      refine cont_next (exs_0 ⟨.inl rfl, ⟨is ++ [i], by rw [← hsp]; simp, ?_⟩, n1, n2, n3⟩)
      unfold hL oL
      rw [List.flatMap_append, List.flatMap_append]
      simp
  · rintro ρ H ⟨⟨is, hsp, rfl⟩, n1, n2, n3⟩
    rw [List.append_nil] at hsp
    subst hsp
    refine cont_next ?_
    refine' exs_ret ?z1 ?z2
    case z1 => k_mem
    exact ⟨h, o, rfl, hh0, ho0, Ne.symm hne, rfl⟩
end

-- TStp
section
variable {w : World} {X : Cx PW w}
set_option maxHeartbeats 4000000

section
variable {nm : Str} {sc : Scope} {L fa : Addr} {cd : Value} {n : Nat}
theorem lp_inv3 {α : Type} {x y z : Str} {p1 p2 p3 p : Pos} {k : Nat} {body : List Stmt} {Q : AF → List (Str × AV) → HM → Prop} (I : List α → List (Str × AV) → HM → Prop) (f g h : α → AV)
    (step : ∀ j js ρ H, I (j :: js) ρ H → EXS X n nm sc L fa cd ((z, h j) :: (y, g j) :: (x, f j) :: ρ) H body (LpJ I js)) (fin : ∀ ρ H, I [] ρ H → Q .next ρ H)
    (hx : (envOf nm sc L fa cd).kindOf x = some .local := by rfl) (hy : (envOf nm sc L fa cd).kindOf y = some .local := by rfl) (hz : (envOf nm sc L fa cd).kindOf z = some .local := by rfl) (hk : sc.kind = .function := by rfl) : ∀ js ρ H, I js ρ H → Lp X n nm sc L fa cd (.Tuple [.Name x p1, .Name y p2, .Name z p3] k p) body (js.map fun j => .tup [f j, g j, h j]) ρ H Q
  | [], ρ, H, q => lp_nil (fin ρ H q)
  | j :: js, ρ, H, q => tg_tuple (tgs_cons (tg_name (tgs_cons (tg_name (tgs_cons (tg_name (tgs_nil ((step j js ρ H q).mono fun g' ρ' H' ⟨q, h'⟩ => by
      rcases q with rfl | rfl
      · exact lp_inv3 I f g h step fin hx hy hz hk js ρ' H' h'
      · exact lp_inv3 I f g h step fin hx hy hz hk js ρ' H' h')) hz hk)) hy hk)) hx hk))
end
variable {A : Lay X}
noncomputable def pairs6 : List (Nat × Nat) := [(0, 0), (0, 1), (1, 0), (1, 1), (2, 0), (2, 1)]
noncomputable def trips (A : Lay X) : List (Nat × Nat × Nat) := [0, 1, 2].flatMap fun i => [0, 1].flatMap fun s => (List.range (A.deg i)).map fun j => (i, s, j)
theorem hL_items (hv : Nat → Nat → Int) : ((hL hv [0, 1, 2]).map fun e => AV.tup (e.1.map .int)) = pairs6.map fun q => .tup [.int q.1, .int q.2] := rfl
theorem oL_items (A : Lay X) (ov : Nat → Nat → Nat → Int) : ((oL A ov [0, 1, 2]).map fun e => AV.tup (e.1.map .int)) = (trips A).map fun q => .tup [.int q.1, .int (A.way q.1 q.2.2), .int q.2.1] := by
  unfold oL trips
  simp only [List.map_flatMap, List.map_map]
  rfl
theorem hL_look (hv : Nat → Nat → Int) {i s : Nat} (hi : i < 3) (hs : s < 2) : lookA (hL hv [0, 1, 2]) [(i : Int), (s : Int)] = some (.int (hv i s)) := by
  have h3 : i = 0 ∨ i = 1 ∨ i = 2 := by first | exact lt3 (by assumption) | omega
  have h2 : s = 0 ∨ s = 1 := by first | exact lt2 (by assumption) | omega
  rcases h3 with rfl | rfl | rfl <;> rcases h2 with rfl | rfl <;> rfl
theorem look_mem {κ : Type} [DecidableEq κ] (k : κ) (v : AV) : ∀ (m : List (κ × AV)), (k, v) ∈ m → (∀ e ∈ m, e.1 = k → e.2 = v) → lookA m k = some v
  | [], h, _ => by cases h
  | (k', v') :: m, h, u => by
    unfold lookA
    by_cases q : k' = k
    · rw [if_pos q, show v' = v from u _ (.head _) q]
    · rw [if_neg q]
      refine look_mem k v m ?_ fun e he => u e (.tail _ he)
      rcases List.mem_cons.mp h with h | h
      · cases h; exact absurd rfl q
      · exact h
theorem oL_look (A : Lay X) (ov : Nat → Nat → Nat → Int) {i j s : Nat} (hi : i < 3) (hj : j < A.deg i) (hs : s < 2) : lookA (oL A ov [0, 1, 2]) [(i : Int), (A.way i j : Int), (s : Int)] = some (.int (ov i j s)) := by
  refine look_mem _ _ _ ?_ fun e he q => ?_
  · refine List.mem_flatMap.mpr ⟨i, by simp; omega, List.mem_flatMap.mpr ⟨s, by simp; omega, List.mem_map.mpr ⟨j, List.mem_range.mpr hj, rfl⟩⟩⟩
  · obtain ⟨i', h1, h2⟩ := List.mem_flatMap.mp he
    obtain ⟨s', h3, h4⟩ := List.mem_flatMap.mp h2
    obtain ⟨j', h5, rfl⟩ := List.mem_map.mp h4
    simp only [oPair, List.cons.injEq] at q
    have e1 : i' = i := by omega
    have e2 : s' = s := by omega
    subst e1 e2
    have : A.way i' j' = A.way i' j := by omega
    have := A.way_inj hi (List.mem_range.mp h5) hj this
    subst this
    rfl
theorem mem_trips {A : Lay X} {q : Nat × Nat × Nat} (h : q ∈ trips A) : q.1 < 3 ∧ q.2.1 < 2 ∧ q.2.2 < A.deg q.1 := by
  obtain ⟨i, h1, h2⟩ := List.mem_flatMap.mp h
  obtain ⟨s, h3, h4⟩ := List.mem_flatMap.mp h2
  obtain ⟨j, h5, rfl⟩ := List.mem_map.mp h4
  simp at h1 h3 h5
  exact ⟨by show i < 3; omega, by show s < 2; omega, h5⟩
theorem mem_pairs {q : Nat × Nat} (h : q ∈ pairs6) : q.1 < 3 ∧ q.2 < 2 := by
  simp [pairs6] at h
  rcases h with rfl | rfl | rfl | rfl | rfl | rfl <;> decide
structure SR {α : Type} (A : Lay X) (P : α → Prop) (h1 o1 : Addr) (bf : AV) (H₀ : HM) (js : List α) (ρ : List (Str × AV)) (H : HM) : Prop where
  ex : H = H₀
  mem : ∀ q ∈ js, P q
  net : ρ.lookup (Str.ofString "net") = some (.ref (A.addr sNet))
  fbf : ρ.lookup (Str.ofString "before") = some bf
  fhv : ρ.lookup (Str.ofString "have") = some (.ref h1)
  fov : ρ.lookup (Str.ofString "owed") = some (.ref o1)
theorem eqv_came (g k l n : Int) : PyData.eqv (.tuple [.int g, .int k, .tuple [.int 1, .int 7, .int l], .int n]) (.tuple [.int g, .int k, .tuple [.int 1, .int 7, .int l], .int n]) = true := by simp [PyData.eqv, PyData.eqvAll]
theorem c_right (hK : IsK X) {h0 o0 h1 o1 : Addr} {hv0 hv : Nat → Nat → Int} {ov0 ov : Nat → Nat → Nat → Int} {t0 t1 now : Int} {came : AV} {H : HM}
    (hnet : H (A.addr sNet) = some (.sd [("now", .int now), ("wire", .ref (A.addr sWire)), ("nodes", .ref A.nodes), ("told", .ref (A.addr sTold)), ("came", came)])) (htold : H (A.addr sTold) = some (.arr [.int t0, .int t1]))
    (b0 : At X H h0 (.td (hL hv0 [0, 1, 2]))) (b1 : At X H o0 (.td (oL A ov0 [0, 1, 2]))) (a0 : X.S h1 = some (.td (hL hv [0, 1, 2]))) (a1 : X.S o1 = some (.td (oL A ov [0, 1, 2]))) (ns0 : (h1 == sysModules) = false) (ns1 : (o1 == sysModules) = false)
    (hcame : came = .none ∨ ∃ g k l n : Int, came = .tup [.int g, .int k, key3 l, .int n])
    (p1 : ∀ i < 3, ∀ s : Nat, s < 2 → hv0 i s ≤ hv i s ∧ hv i s ≤ (if s = 0 then t0 else t1) ∧ (i = s → ¬ hv i s < (if s = 0 then t0 else t1)))
    (p2 : ∀ i < 3, ∀ j < A.deg i, ∀ s : Nat, s < 2 → (ov i j s = 0 ∨ ov i j s = hv i s) ∧ ¬ (hv (A.way i j) s < hv i s ∧ ov i j s = 0) ∧ (0 < ov0 i j s → ov i j s = 0 → hv i s = ov0 i j s → came = .tup [.int i, .int (A.way i j), key3 ((s : Int) + 1), .int (ov0 i j s)])) :
    PC X 60 (.ref 350) [.ref (A.addr sNet), .tup [.ref h0, .ref o0], .tup [.ref h1, .ref o1]] H (.bool true) := by
  refine cl_def (n := 58) (fn_of hK (f := 350) rfl rfl rfl) (names := ["net", "before", "after"]) (by l_fit) (by decide) (by decide) fun L => ?_
  have a0' : At X H h1 (.td (hL hv [0, 1, 2])) := .inr a0
  have a1' : At X H o1 (.td (oL A ov [0, 1, 2])) := .inr a1
  refine' exs_as ?u1 ?u2
  case u1 => k_mem
  case u2 =>
  refine tg_tuple (tgs_cons (tg_name (tgs_cons (tg_name (tgs_nil ?_)))))
  refine exs_c ?_
  refine' ex_for_td ?v1 a0 ns0 ?v2
  case v1 => k_mem
  case v2 =>
  rw [hL_items]
  refine lp_invP (SR A (fun q : Nat × Nat => q.1 < 3 ∧ q.2 < 2) h1 o1 (.tup [.ref h0, .ref o0]) H) (fun q => .int q.1) (fun q => .int q.2) ?_ ?_ rfl rfl rfl _ _ _ ⟨rfl, fun q hq => mem_pairs hq, rfl, rfl, rfl, rfl⟩
  · rintro ⟨i, s⟩ js ρ H₁ ⟨rfl, hm, n1, n2, n3, n4⟩
    obtain ⟨hi, hs⟩ := hm _ (.head _)
    replace hi : i < 3 := hi
    replace hs : s < 2 := hs
    have l0 := hL_look hv0 hi hs
    have l1 := hL_look hv hi hs
    obtain ⟨q1, q2, q3⟩ := p1 i hi s hs
    have lt : ([AV.int t0, .int t1])[((s : Nat) : Int).toNat]? = some (.int (if s = 0 then t0 else t1)) := by
      have h2 : s = 0 ∨ s = 1 := by first | exact lt2 (by assumption) | omega
      rcases h2 with rfl | rfl <;> rfl
    refine' exs_if0 (c := false) ?w1 ?w2 ?w3
    case w2 => intro c; cases c
    case w1 =>
      refine' pt_conv (b := false) (pt_or (pt_not (pt_chain2 ?r1 ?r2 ?r3 (.base (.leI _ _)) (.base (.leI _ _)))) fun _ => pt_or (pt_and ?r4 fun _ => pt_and ?r5 fun _ => tv_and_nil) fun _ => tv_or_nil) ?w5
      case r1 => k_mem
      case r2 => k_mem
      case r3 =>
        refine' pe_sub ?r6 ?r7 (ASub.arr (.inl htold) (by omega) (by omega) lt)
        case r6 => k_mem
        case r7 => k_mem
      case r4 => k_memK
      case r5 =>
        refine' pt_cm ?r8 ?r9 ?r12
        case r8 => k_mem
        case r9 =>
          refine' pe_sub ?r10 ?r11 (ASub.arr (.inl htold) (by omega) (by omega) lt)
          case r10 => k_mem
          case r11 => k_mem
        case r12 => exact .base (.ltI _ _)
      case w5 =>
        rw [decide_eq_true q1, decide_eq_true q2]
        by_cases e : i = s
        · rw [decide_eq_false (q3 e)]; simp
        · have : ((i : Int) == (s : Int)) = false := by simpa using fun q => e (by omega)
          rw [this]; simp
    intro _
    exact exs_0 ⟨.inl rfl, rfl, fun q hq => hm q (.tail _ hq), n1, n2, n3, n4⟩
  · rintro ρ H₁ ⟨rfl, hm, n1, n2, n3, n4⟩
    refine cont_next ?_
    refine exs_c ?_
    refine' ex_for_td ?x1 a1 ns1 ?x2
    case x1 => k_mem
    case x2 =>
    rw [oL_items]
    refine lp_inv3 (SR A (fun q : Nat × Nat × Nat => q.1 < 3 ∧ q.2.1 < 2 ∧ q.2.2 < A.deg q.1) h1 o1 (.tup [.ref h0, .ref o0]) H₁) (fun q => .int q.1) (fun q => .int (A.way q.1 q.2.2)) (fun q => .int q.2.1) ?_ ?_ rfl rfl rfl rfl _ _ _ ⟨rfl, fun q hq => mem_trips hq, n1, n2, n3, n4⟩
    · rintro ⟨i, s, j⟩ js ρ H ⟨rfl, hm, n1, n2, n3, n4⟩
      obtain ⟨hi, hs, hj⟩ := hm _ (.head _)
      replace hi : i < 3 := hi
      replace hs : s < 2 := hs
      replace hj : j < A.deg i := hj
      have hwy := A.hway i hi j hj
      have l0 := oL_look A ov0 hi hj hs
      have l1 := oL_look A ov hi hj hs
      have l2 := hL_look hv hi hs
      have l3 := hL_look hv hwy hs
      obtain ⟨q1, q2, q3⟩ := p2 i hi j hj s hs
      k_updF
      refine' exs_if0 (c := false) ?y1 ?y2 ?y3
      case y2 => intro c; cases c
      case y1 =>
        have sh : shaped (.int (ov i j s)) = true := by simp [shaped, PyData.canLay0, PyData.depth]
        have sh2 : PyData.canLayAll0 [.int 0, .int (hv i s)] = true := by simp [PyData.canLay0, PyData.canLayAll0]
        refine' pt_conv (b := false) (pt_or (pt_cm ?y4 ?y6 (.ninT (a := .int (ov i j s)) (xs := [.int 0, .int (hv i s)]) (da := .int (ov i j s)) (ds := [.int 0, .int (hv i s)]) rfl rfl sh sh2)) fun _ => pt_or ?y7 fun _ => tv_or_nil) ?y5
        case y4 => k_mem
        case y6 => k_mem
        case y7 => k_memK
        case y5 =>
          simp only [List.any_cons, List.any_nil, PyData.eqv, Bool.or_false]
          rcases q1 with q1 | q1
          · rw [q1] at q2 ⊢
            have : ¬ (hv (A.way i j) s < hv i s) := fun h => q2 ⟨h, rfl⟩
            simp [this]
          · have : ¬ (hv (A.way i j) s < hv i s ∧ ov i j s = 0) := q2
            rw [q1] at this ⊢
            by_cases e1 : hv (A.way i j) s < hv i s
            · have e2 : ¬ hv i s = 0 := fun e => this ⟨e1, e⟩
              simp [e1, e2]
            · simp [e1]
      intro _
      have lk : ([.tup [.int 1, .int 7, .int 1], .tup [.int 1, .int 7, .int 2]] : List AV)[((s : Nat) : Int).toNat]? = some (key3 ((s : Int) + 1)) := by
        have h2 : s = 0 ∨ s = 1 := by first | exact lt2 (by assumption) | omega
        rcases h2 with rfl | rfl <;> rfl
      obtain ⟨dc, hd1, hd2, hd3⟩ : ∃ dc, toD came = some dc ∧ shaped dc = true ∧ (came = .tup [.int i, .int (A.way i j), key3 ((s : Int) + 1), .int (ov0 i j s)] → PyData.eqv dc (.tuple [.int i, .int (A.way i j), .tuple [.int 1, .int 7, .int ((s : Int) + 1)], .int (ov0 i j s)]) = true) := by
        rcases hcame with rfl | ⟨g, k, l, n, rfl⟩
        · exact ⟨.none, rfl, by simp [shaped, PyData.canLay0, PyData.depth], fun e => by cases e⟩
        · refine ⟨.tuple [.int g, .int k, .tuple [.int 1, .int 7, .int l], .int n], rfl, by simp [shaped, PyData.canLay0, PyData.canLayAll0, PyData.depth, PyData.depthAll], fun e => ?_⟩
          simp only [AV.tup.injEq, List.cons.injEq, AV.int.injEq, key3, and_true, true_and] at e
          obtain ⟨e1, e2, e3, e4⟩ := e
          rw [e1, e2, e3, e4]
          exact eqv_came _ _ _ _
      have sh3 : shaped (.tuple [.int i, .int (A.way i j), .tuple [.int 1, .int 7, .int ((s : Int) + 1)], .int (ov0 i j s)]) = true := by simp [shaped, PyData.canLay0, PyData.canLayAll0, PyData.depth, PyData.depthAll]
      have hnet' := hnet
      refine' exs_if0 (c := false) ?z1 ?z2 ?z3
      case z2 => intro c; cases c
      case z1 =>
        refine' pt_conv (b := false) (pt_and ?z4 fun _ => pt_and ?z5 fun _ => pt_and (pt_cm ?z6 ?z7 (.neD hd1 (b := .tup [.int i, .int (A.way i j), key3 ((s : Int) + 1), .int (ov0 i j s)]) rfl hd2 sh3)) fun _ => pt_and ?z8 fun _ => tv_and_nil) ?z9
        case z4 => k_memK
        case z5 => k_memK
        case z6 => k_mem
        case z7 =>
          refine' pe_tuple ?z10 (hz := Nat.le_of_ble_eq_true rfl)
          refine' PEs.one ?z11 (PEs.one ?z12 (PEs.one ?z13 (PEs.one ?z14 .nil)))
          case z11 => k_mem
          case z12 => k_mem
          case z14 => k_mem
          case z13 =>
            refine' pe_sub ?z15 ?z16 (ASub.tup (by omega) (by omega) lk)
            case z15 => k_mem
            case z16 => k_mem
        case z8 => k_memK
        case z9 =>
          by_cases e1 : 0 < ov0 i j s
          · by_cases e2 : ov i j s = 0
            · by_cases e3 : hv i s = ov0 i j s
              · have := hd3 (q3 e1 e2 e3)
                simp [this]
              · simp [e3]
            · simp [e2]
          · simp [e1]
      intro _
      exact exs_0 ⟨.inl rfl, rfl, fun q hq => hm q (.tail _ hq), n1, n2, n3, n4⟩
    · rintro ρ H ⟨rfl, hm, n1, n2, n3, n4⟩
      refine cont_next ?_
      k_updF
end

-- TMk
section
variable {w : World} {X : Cx PW w}
set_option maxHeartbeats 4000000

/-- new objects, named all at once -/
noncomputable def HM.puts (H : HM) : List (Addr × AO) → HM
  | [] => H
  | p :: r => (H.puts r).put p.1 p.2
theorem Good.adds {prog : Program} {w : World} {h₀ : Heap} {S H : HM} {s s' : Shared} (G : Good prog w h₀ S H s) (k : ∀ b o, s.heap.get? b = some o → s'.heap.get? b = some o) (hg : s'.gens = s.gens) (ho : s'.os = s.os) :
    ∀ l : List (Addr × AO), (∀ p ∈ l, s.heap.get? p.1 = none ∧ OIs prog w s'.heap p.1 p.2) → Good prog w h₀ S (H.puts l) s' ∧ Ext H s (H.puts l) s'
  | [], _ => G.grow k hg ho
  | p :: r, hl => by
    obtain ⟨g, x⟩ := G.adds k hg ho r fun q hq => hl q (.tail _ hq)
    obtain ⟨hn, hi⟩ := hl p (.head _)
    refine ⟨⟨g.keep, fun a ao e => ⟨(g.st a ao e).1, ?_⟩, fun a ao e => ?_, g.gens⟩, ⟨x.kept, x.tup, fun a na nb => ?_, x.os, x.there⟩⟩
    · have ne : a ≠ p.1 := fun q => by
        obtain ⟨o, e', _⟩ := (G.st a ao e).1.there
        rw [q, hn] at e'; cases e'
      exact (HM.put_ne _ _ ne).trans (g.st a ao e).2
    · by_cases q : a = p.1
      · subst q
        have e' : some p.2 = some ao := (HM.put_self _ _ _).symm.trans e
        cases e'
        refine ⟨hi, ?_⟩
        cases q : h₀.get? p.1 with
        | none => rfl
        | some o => have := G.keep _ o q; rw [hn] at this; cases this
      · exact g.ob a ao ((HM.put_ne _ _ q).symm.trans e)
    · by_cases q : a = p.1
      · rw [q]; exact hn
      · exact x.dom a (fun z => na ((HM.put_ne _ _ q).trans z)) nb

theorem cl_dbnew (hK : IsK X) {n : Nat} {H : HM} : CL X (n + 10) (.ref 167) [] H fun b H' => ∃ x dx rw sl hh t k, b = .ref x ∧ H x = none ∧ H dx = none ∧ H rw = none ∧ x ≠ dx ∧ x ≠ rw ∧ dx ≠ rw ∧
    H' = H.puts [(x, .raw ⟨.ref 167, some dx, .plain, sl⟩), (dx, .raw (dictOf [⟨hh, .str "rows" t, .ref rw⟩] k)), (rw, .td [])] := fun A s vs ok G il => by
  cases il
  have Kin : (hd.heap_39 w.params).In s.heap := fun b o e => G.keep b o (X.KIn b o (by rw [hK.k]; exact e))
  obtain ⟨o79, ho79, hd79⟩ := (fn_of hK (f := 79) rfl rfl rfl).ob
  have hc79 := (fn_of hK (f := 79) rfl rfl rfl).code
  obtain ⟨hh, g, d, tk, os⟩ := s
  have kk : ∀ b o, hh.get? b = some o → ((hh.push emptyDict).push (instObj 167 hh.objs.size)).get? b = some o := fun b o e => Heap.get?_push_of_some _ (Heap.get?_push_of_some _ e)
  refine wpAny_call (make_core (makes_of Kin (C := 167) (by rfl)) (looks_findIn Kin (by rfl)) (fun self => bind_fn Kin (f := 79) self (by rfl)) (.inl rfl) ?_)
  have hdp := ok.dp
  refine codeAny_call_def (binds := [("self", .ref (hh.objs.size + 1))]) (by show A.depth + 1 < recursionLimit; show A.depth + 1 < 1000; omega) (kk _ _ (G.keep _ _ ho79)) hd79 ((X.nolim.keeps G.keep).keeps kk) ((hc79.keeps G.keep).keeps kk) rfl ?_ ?_ ?_ (fun h₁ hns hk₁ => ?_)
  · exact .of_eq (by rfl)
  · decide
  · intro y hy; rw [List.mem_singleton.mp hy]; rfl
  have hsz1 : ((hh.push emptyDict).push (instObj 167 hh.objs.size)).objs.size = hh.objs.size + 2 := by rw [Heap.size_push, Heap.size_push]
  rw [show (Shared.mk ((hh.push emptyDict).push (instObj 167 hh.objs.size)) g d tk os).heap = (hh.push emptyDict).push (instObj 167 hh.objs.size) from rfl] at hns hk₁ ⊢
  rw [hsz1] at hns ⊢
  have hx1 : ((hh.push emptyDict).push (instObj 167 hh.objs.size)).get? (hh.objs.size + 1) = some (instObj 167 hh.objs.size) := by heap_get
  have hd1 : ((hh.push emptyDict).push (instObj 167 hh.objs.size)).get? hh.objs.size = some emptyDict := by heap_get
  have hnx : ∀ i, hh.objs.size ≤ i → hh.get? i = none := fun i hi => Heap.get?_none_of_le hi
  have kp : ∀ b o, h₁.get? b = some o → (h₁.push { cls := .type "dict", data := .dict #[] }).get? b = some o := fun b o e => Heap.get?_push_of_some _ e
  refine wpAny_execs_cons (plainObj_wpAny_Assign_Attribute (wpAny_Dict_empty ?_) rfl)
  refine wpAny_Name (wpAny_loadName_local rfl rfl (hns.keeps kp) (v := .ref (hh.objs.size + 1)) rfl ?_) (by decide)
  have F : Fr hh (hh.objs.size + 2) (h₁.push { cls := .type "dict", data := .dict #[] }) _ := ⟨hns.keeps kp, fun b o e => kp _ _ (hk₁ _ _ (kk _ _ e)), Nat.le_add_right _ _⟩
  have hr1 : (h₁.push { cls := .type "dict", data := .dict #[] }).get? h₁.objs.size = some { cls := .type "dict", data := .dict #[] } := Heap.get?_push_size _ rfl
  have gt1 : hh.objs.size + 2 < h₁.objs.size := by
    obtain ⟨o, es, ep, e, _⟩ := hns
    exact Heap.lt_size e
  have N : News hh (hh.objs.size + 2) (h₁.push { cls := .type "dict", data := .dict #[] }) [(hh.objs.size, dictOf [] 0), (hh.objs.size + 1, instObj 167 hh.objs.size), (h₁.objs.size, dictOf [] 0)] := by
    intro p hp
    have hp' : p = (hh.objs.size, dictOf [] 0) ∨ p = (hh.objs.size + 1, instObj 167 hh.objs.size) ∨ p = (h₁.objs.size, dictOf [] 0) := by simpa using hp
    rcases hp' with rfl | rfl | rfl
    · exact ⟨kp _ _ (hk₁ _ _ hd1), by show hh.objs.size ≠ hh.objs.size + 2; omega, hnx _ (Nat.le_refl _)⟩
    · exact ⟨kp _ _ (hk₁ _ _ hx1), by show hh.objs.size + 1 ≠ hh.objs.size + 2; omega, hnx _ (Nat.le_succ _)⟩
    · exact ⟨hr1, by show h₁.objs.size ≠ hh.objs.size + 2; omega, hnx _ (by omega)⟩
  refine set_dict (es := []) (n := 0) (dx := hh.objs.size) F Kin N ⟨kp _ _ (hk₁ _ _ hx1), rfl, rfl, kp _ _ (hk₁ _ _ hd1)⟩ rfl (by rfl) (by rfl) (by rfl) (by rfl) (by rfl) rfl (.head ?_) (Nat.le_of_ble_eq_true rfl) fun h' F' N' => ?_
  · intro p hp
    have hp' : p = (hh.objs.size + 1, instObj 167 hh.objs.size) ∨ p = (h₁.objs.size, dictOf [] 0) := by simpa using hp
    rcases hp' with rfl | rfl
    · show hh.objs.size + 1 ≠ hh.objs.size; omega
    · show h₁.objs.size ≠ hh.objs.size; omega
  refine wpAny_execs_nil ⟨rfl, ?_⟩
  have kf : ∀ b o, hh.get? b = some o → h'.get? b = some o := F'.keep
  have nrw : hh.get? h₁.objs.size = none := hnx _ (by omega)
  have none_of : ∀ a, hh.get? a = none → H a = none := fun a e => by
    cases q : H a with
    | none => rfl
    | some ao => obtain ⟨o, e', _⟩ := (G.ob a ao q).1.there; rw [e] at e'; cases e'
  have m1 := (N' _ (.head _)).1
  have m2 := (N' _ (.tail _ (.head _))).1
  have m3 := (N' _ (.tail _ (.tail _ (.head _)))).1
  obtain ⟨g', x'⟩ := G.adds (s' := { heap := h', gens := g, drawn := d, toks := tk + 1 + 2, os := os }) kf rfl rfl [(hh.objs.size + 1, .raw (instObj 167 hh.objs.size)), (hh.objs.size, .raw (dictOf [⟨PyData.keyHash w.params "rows", .str "rows" (tk + 1 + 1), .ref h₁.objs.size⟩] 1)), (h₁.objs.size, .td [])] fun p hp => by
    have hp' : p = (hh.objs.size + 1, .raw (instObj 167 hh.objs.size)) ∨ p = (hh.objs.size, .raw (dictOf [⟨PyData.keyHash w.params "rows", .str "rows" (tk + 1 + 1), .ref h₁.objs.size⟩] 1)) ∨ p = (h₁.objs.size, .td []) := by simpa using hp
    rcases hp' with rfl | rfl | rfl
    · exact ⟨hnx _ (Nat.le_succ _), m2, fun ⟨_, _, _, q⟩ => by cases q⟩
    · exact ⟨hnx _ (Nat.le_refl _), m1, fun ⟨_, _, _, q⟩ => by cases q⟩
    · exact ⟨nrw, [], ⟨_, #[], 0, m3, ⟨rfl, rfl, rfl⟩, rfl, rfl, fun _ hx => by simp at hx, List.nodup_nil⟩, .nil⟩
  exact ⟨.ref (hh.objs.size + 1), _, .ref _, g', x', hh.objs.size + 1, hh.objs.size, h₁.objs.size, _, _, _, _, rfl, none_of _ (hnx _ (Nat.le_succ _)), none_of _ (hnx _ (Nat.le_refl _)), none_of _ nrw, Nat.succ_ne_self _, Nat.ne_of_lt (Nat.lt_trans (Nat.lt_succ_self _) gt1), Nat.ne_of_lt (Nat.lt_trans (Nat.lt_succ_of_lt (Nat.lt_succ_self _)) gt1), rfl⟩
end

-- TDrw
section
variable {w : World} {X : Cx PW w}
set_option maxHeartbeats 4000000
theorem fmod_rng {a m : Int} (h : 0 < m) : 0 ≤ a.fmod m ∧ a.fmod m < m := ⟨Int.fmod_nonneg_of_pos _ h, Int.fmod_lt_of_pos _ h⟩
theorem c_drawn (hK : IsK X) {bx bl : Addr} {bk m : Int} {ns : List Int} {H : HM} (hb : H bx = some (.arr [.ref bl, .int bk])) (hl : X.S bl = some (.lst (ns.map .int))) (h0 : 0 ≤ bk) (h1 : bk ≤ 1000) (hz : (ns.map AV.int).length ≤ 1000) (hm : 0 < m) :
    CL X 40 (.ref 287) [.ref bx, .int m] H fun b H' => (∃ r, b = .int r ∧ 0 ≤ r ∧ r < m) ∧ H' = H.put bx (.arr [.ref bl, .int (bk + 1)]) := by
  refine cl_def (n := 38) (fn_of hK (f := 287) rfl rfl rfl) (names := ["box", "many"]) (by l_fit) (by decide) (by decide) fun L => ?_
  have hm0 : m ≠ 0 := by omega
  have s1 : ASub X H (.ref bx) (.int 1) (.int bk) := .arr (.inl hb) (by decide) (by decide) rfl
  refine' exs_as ?a1 ?a2
  case a1 => k_mem
  refine' tg_sub ?a3 ?a4 ?a5 ?a6
  case a3 => k_mem
  case a4 => k_mem
  case a5 => exact .arr hb (by decide) (by show (1 : Int) < 2; decide) (by show 2 ≤ 1000; decide)
  rw [show ([AV.ref bl, AV.int bk].set (1 : Int).toNat (.int (bk + 1))) = [.ref bl, .int (bk + 1)] from rfl]
  have hb1 : (H.put bx (.arr [.ref bl, .int (bk + 1)])) bx = some (.arr [.ref bl, .int (bk + 1)]) := HM.put_self ..
  clear s1 hb
  generalize H.put bx (.arr [.ref bl, .int (bk + 1)]) = H1 at hb1
  have s1 : ASub X H1 (.ref bx) (.int 1) (.int (bk + 1)) := .arr (.inl hb1) (by decide) (by decide) rfl
  have s0 : ASub X H1 (.ref bx) (.int 0) (.ref bl) := .arr (.inl hb1) (by decide) (by decide) rfl
  k_updF
  · intro c
    have hlt : bk < (ns.map AV.int).length := of_decide_eq_true c
    have hlt' : bk.toNat < ns.length := by rw [List.length_map] at hlt; omega
    have lk : (ns.map AV.int)[(bk + 1 - 1).toNat]? = some (.int (ns[bk.toNat])) := by
      rw [Int.add_sub_cancel, List.getElem?_map, List.getElem?_eq_getElem hlt']; rfl
    have s2 : ASub X H1 (.ref bl) (.int (bk + 1 - 1)) (.int (ns[bk.toNat])) := .lst (.inr hl) (by omega) (by omega) lk
    refine' exs_ret ?b1 ?b2
    case b1 => k_mem
    exact ⟨⟨_, rfl, fmod_rng hm⟩, rfl⟩
  · intro c
    k_updF
    exact ⟨⟨_, rfl, fmod_rng hm⟩, rfl⟩
end

-- TRng
section
variable {w : World} {X : Cx PW w}
set_option maxHeartbeats 4000000
section
variable {nm : Str} {sc : Scope} {L fa : Addr} {cd : Value} {n : Nat} {ρ : List (Str × AV)} {H : HM}
theorem ex_for_range {x : Str} {p : Pos} {func arg : Expr} {body : List Stmt} {pos pos' : Pos} {N : Nat} {Q : AF → List (Str × AV) → HM → Prop} (hf : PE X (n + 1) nm sc L fa cd ρ H func (.ty "range")) (ha : PE X (n + 1) nm sc L fa cd ρ H arg (.int N)) (hN : N ≤ 1000)
    (l : Lp X n nm sc L fa cd (.Name x p) body ((List.range N).map fun i => .int (i : Nat)) ρ H Q)
    (hst : starEach [arg] (envOf nm sc L fa cd) = (false, eval arg (envOf nm sc L fa cd)) :: starEach [] (envOf nm sc L fa cd) := by rfl)
    (he : eval (.Call func [arg] [] pos') (envOf nm sc L fa cd) = (do callWith pos' (← eval func (envOf nm sc L fa cd)) [] (backTo pos' (starEach [arg] (envOf nm sc L fa cd))) (backToKw pos' (keywordEach [] (envOf nm sc L fa cd)))) := by rfl)
    (hs : ∀ x, foldedSetIterable (.Call func [arg] [] pos') (envOf nm sc L fa cd) x = pure x := by intro _; rfl) : EX X n nm sc L fa cd ρ H (.For (.Name x p) (.Call func [arg] [] pos') body [] pos) Q := fun A s ok G =>
  wpAny_For (hs := hs) (Call_ (he := he) (stepP (hf A s ok G) fun v s1 i1 G1 x1 => by
    first | apply i1.ref_elim | apply i1.bool_elim | apply i1.ty_elim | apply i1.bi_elim | cases i1
    refine callWith_type1 (he := hst) (stepP (spliced_sound (PEs.cons ha hst .nil) ok G1) fun vs s2 i2 G2 x2 => ?_)
    obtain ⟨u, rfl, iu⟩ := i2.one
    obtain ⟨t, rfl⟩ := iu.int_inv
    refine call_range_1 ?_
    have k1 : ∀ b o, s2.heap.get? b = some o → (s2.heap.push { cls := .type "range", data := .fields #[.int 0 s2.toks, .int N t, .int 1 (s2.toks + 1)] }).get? b = some o := fun b o e => Heap.get?_push_of_some _ e
    obtain ⟨G3, x3⟩ := G2.grow (s' := { s2 with heap := s2.heap.push { cls := .type "range", data := .fields #[.int 0 s2.toks, .int N t, .int 1 (s2.toks + 1)] }, toks := s2.toks + 1 + 1 }) k1 rfl rfl
    refine wpAny_pyIter_range (IsRange.new ..) (small_one (by omega) (by omega) (by omega) (by omega)) ?_
    obtain ⟨xs, hxs⟩ : ∃ xs : List AV, xs = (List.range N).map fun i => AV.int (i : Nat) := ⟨_, rfl⟩
    rw [← hxs] at l
    have hlen : xs.length = N := by rw [hxs]; simp
    have hsz : Builtin.Range.rangeSize 0 N 1 = (xs.length : Int) := by rw [rangeSize_one, hlen]; split <;> omega
    rw [hsz]
    generalize hs3 : ({ s2 with heap := s2.heap.push { cls := .type "range", data := .fields #[.int 0 s2.toks, .int N t, .int 1 (s2.toks + 1)] }, toks := s2.toks + 1 + 1 } : Shared) = s3 at G3 x3 ⊢
    have fr := G3.new (fresh_size s3.heap)
    obtain ⟨G4, x4⟩ := G3.grow (s' := { s3 with heap := s3.heap.push { cls := .type "range_iterator", data := .fields #[rawInt 0, rawInt xs.length, rawInt 1] } }) (fun b o e => Heap.get?_push_of_some _ e) rfl rfl
    have W := KTurns.ofWalks (target := .Name x p) (Walks.range (prog := PW) (w := w) (A := A) ok.hd s3.heap.objs.size 0 1 xs.length).bound fun i v s Q E st q => go_name q
    refine loop_sound W ok (fun i v h pp tk => ?_) (fun i h st b hb => ?_) (fun i v h st b hb => ?_) (fun b hb => ?_) (fun b hb => ?_) ?_ G4 (((x1.trans x2).trans x3).trans x4) l
    · obtain ⟨hi, t, rfl⟩ := pp
      refine ⟨.int (i : Nat), ?_, ?_⟩
      · rw [hxs, List.getElem?_map, List.getElem?_range (by omega)]; rfl
      · rw [show (0 + (i : Int) * 1) = (i : Int) by simp]; exact .int _ _
    · rw [List.mem_singleton.mp hb]
      exact ⟨_, st, fun ⟨_, _, _, q⟩ => by cases q⟩
    · rw [List.mem_singleton.mp hb]
      exact ⟨_, st.2, fun ⟨_, _, _, q⟩ => by cases q⟩
    · rw [List.mem_singleton.mp hb]; exact ⟨((x1.trans x2).trans x3).none (fresh_size _), fr.1, fr.2.1⟩
    · rw [List.mem_singleton.mp hb]; exact ⟨⟨_, Heap.get?_push_size _ rfl⟩, fr.2.2.1, fr.2.2.2⟩
    · show IsRangeIter _ _ (0 + ((0 : Nat) : Int) * 1) ((xs.length : Int) - ((0 : Nat) : Int)) 1
      rw [show (0 + ((0 : Nat) : Int) * 1) = 0 by simp, show ((xs.length : Int) - ((0 : Nat) : Int)) = xs.length by simp]
      exact Heap.get?_push_size _ rfl))
end
end

-- TNt0
section
variable {w : World} {X : Cx PW w}
section
variable {nm : Str} {sc : Scope} {L fa : Addr} {cd : Value} {n : Nat} {ρ : List (Str × AV)} {H : HM}
theorem ev_sub {value slice : Expr} {pos : Pos} {Q : AV → HM → Prop} (hv : EV X (n + 1) nm sc L fa cd ρ H value fun a H' => ∃ iv r, PE X (n + 1) nm sc L fa cd ρ H' slice iv ∧ ASub X H' a iv r ∧ Q r H')
    (hs : ∀ o i, subscripted slice false o i = operate [o, i] (getItem o i) := by intros; rfl) : EV X (n + 1) nm sc L fa cd ρ H (.Subscript value slice pos) Q := fun A s ok G =>
  Subscript_ (step (hv A s ok G) fun v _ _ _ s1 i1 G1 x1 ⟨e1, iv, r, hi, h, q⟩ => by
    subst e1
    refine stepP (hi A s1 ok G1) fun u s2 i2 G2 x2 => ?_
    exact leaf (x1.trans x2) (wpAny_mono (sub_sound h ok G2 (i1.mono x2.tup) i2 hs) (fun _ _ p => p.mono fun b ρ' H' ⟨e1, e2, e3⟩ => ⟨e1, by subst e2 e3; exact q⟩) fun _ _ e => e))
/-- a class of the heap's, called without arguments -/
theorem ev_cls0 (hK : IsK X) {func : Expr} {pos : Pos} {C : Addr} {Q : AV → HM → Prop} (hf : PE X n nm sc L fa cd ρ H func (.ref C)) (hk : keepIn (hd.heap_39 w.params) (.ref C) = true) (hc : CL X n (.ref C) [] H Q)
    (he : eval (.Call func [] [] pos) (envOf nm sc L fa cd) = (do callWith pos (← eval func (envOf nm sc L fa cd)) [] (backTo pos (starEach [] (envOf nm sc L fa cd))) (backToKw pos (keywordEach [] (envOf nm sc L fa cd)))) := by rfl) :
    EV X n nm sc L fa cd ρ H (.Call func [] [] pos) Q := fun A s ok G =>
  Call_ (he := he) (stepP (hf A s ok G) fun v s1 i1 G1 x1 => by
    first | apply i1.ref_elim | apply i1.bool_elim | apply i1.ty_elim | apply i1.bi_elim | cases i1
    have Kin : (hd.heap_39 w.params).In s1.heap := fun b o e => G1.keep b o (X.KIn b o (by rw [hK.k]; exact e))
    exact callWith_K0 Kin hk (leaf x1 (call_back hc ok G1 .nil)))
end
/-- what stands stays -/
noncomputable def Le (H H' : HM) : Prop := ∀ a ao, H a = some ao → H' a = some ao
theorem Le.refl (H : HM) : Le H H := fun _ _ e => e
theorem Le.trans {H H' H'' : HM} (x : Le H H') (y : Le H' H'') : Le H H'' := fun a o e => y a o (x a o e)
theorem Le.none {H H' : HM} (x : Le H H') {a : Addr} (h : H' a = none) : H a = none := by
  cases q : H a with
  | none => rfl
  | some o => rw [x a o q] at h; cases h
theorem Le.put {H H' : HM} (x : Le H H') {a : Addr} {o : AO} (h : H a = .none) : Le H (H'.put a o) := fun b ao e => by
  rw [HM.put_ne]
  · exact x b ao e
  · intro q; subst q; rw [h] at e; cases e
theorem HM.ne {H : HM} {a b : Addr} {o : AO} (h : H a = some o) (h' : H b = none) : a ≠ b := fun e => by rw [e, h'] at h; cases h
theorem HM.ne2 {H : HM} {a b : Addr} {o o' : AO} (h : H a = some o) (h' : H b = some o') (n : o ≠ o') : a ≠ b := fun e => by rw [e, h'] at h; cases h; exact n rfl

/-- a face of a node -/
structure FaceR where
  way : Nat
  fc : Addr
  nl : Addr
  md : Addr
  rq : Addr
  ow : Addr
structure NodeR where
  nd : Addr
  db : Addr
  rw : Addr
  fl : Addr
  wl : Addr
  faces : List FaceR
structure FaceOK (H : HM) (j : Nat) (f : FaceR) : Prop where
  fc : H f.fc = some (faceD j f.nl)
  nl : H f.nl = some (.lst [.ref f.md])
  md : H f.md = some (mateD (f.way + 1) f.rq f.ow)
  ow : H f.ow = some (.td [])
noncomputable def DbH (H : HM) (x rw : Addr) : Prop := ∃ sl dx hh t k, H x = some (.raw ⟨.ref 167, some dx, .plain, sl⟩) ∧ H dx = some (.raw (dictOf [⟨hh, .str "rows" t, .ref rw⟩] k))
noncomputable abbrev nodeD (db fl wl : Addr) : AO := .sd [("base", .ref db), ("faces", .ref fl), ("ways", .ref wl)]
structure NodeOK (H : HM) (N : NodeR) : Prop where
  nd : H N.nd = some (nodeD N.db N.fl N.wl)
  db : DbH H N.db N.rw
  rw : H N.rw = some (.td [])
  fl : H N.fl = some (.lst (N.faces.map fun f => .ref f.fc))
  wl : H N.wl = some (.lst (N.faces.map fun f => .int f.way))
  fc : ∀ j f, N.faces[j]? = some f → FaceOK H j f
  ne : N.fl ≠ N.wl
noncomputable def NodeR.tds (N : NodeR) : List Addr := N.rw :: N.faces.map (·.ow)
theorem NodeOK.keep {H H' : HM} {N : NodeR} (n : NodeOK H N) (k : ∀ a ao, H a = some ao → (∀ xs, ao ≠ .lst xs) → H' a = some ao) (h1 : H' N.fl = H N.fl) (h2 : H' N.wl = H N.wl) (h3 : ∀ f ∈ N.faces, H' f.nl = H f.nl) : NodeOK H' N where
  nd := k _ _ n.nd fun _ => nofun
  db := let ⟨sl, dx, hh, t, kk, e1, e2⟩ := n.db; ⟨sl, dx, hh, t, kk, k _ _ e1 fun _ => nofun, k _ _ e2 fun _ => nofun⟩
  rw := k _ _ n.rw fun _ => nofun
  fl := h1.trans n.fl
  wl := h2.trans n.wl
  fc := fun j f e => let F := n.fc j f e; ⟨k _ _ F.fc fun _ => nofun, (h3 f (List.mem_of_getElem? e)).trans F.nl, k _ _ F.md fun _ => nofun, k _ _ F.ow fun _ => nofun⟩
  ne := n.ne
theorem NodeOK.le {H H' : HM} {N : NodeR} (n : NodeOK H N) (k : Le H H') : NodeOK H' N where
  nd := k _ _ n.nd
  db := let ⟨sl, dx, hh, t, kk, e1, e2⟩ := n.db; ⟨sl, dx, hh, t, kk, k _ _ e1, k _ _ e2⟩
  rw := k _ _ n.rw
  fl := k _ _ n.fl
  wl := k _ _ n.wl
  fc := fun j f e => let F := n.fc j f e; ⟨k _ _ F.fc, k _ _ F.nl, k _ _ F.md, k _ _ F.ow⟩
  ne := n.ne
end

-- TNet
section
variable {w : World} {X : Cx PW w}
set_option maxHeartbeats 4000000
noncomputable def waysL (r : Bool) (i : Nat) : List Nat := (match i with | 0 => [1, 2] | 1 => [0, 2] | _ => [1, 0]).take (degOf r i)
noncomputable abbrev netD (wire nodes told : Addr) : AO := .sd [("now", .int 100), ("wire", .ref wire), ("nodes", .ref nodes), ("told", .ref told), ("came", .none)]
structure II (Hb : HM) (N : NodeR) (ways : List Nat) (net nodes : Addr) (i : Nat) (r : Bool) (js : List Nat) (ρ : List (Str × AV)) (H : HM) : Prop where
  ex : ∃ fs, fs.map FaceR.way ++ js = ways ∧ NodeOK H { N with faces := fs } ∧ (NodeR.tds { N with faces := fs }).Nodup ∧ (∀ t ∈ NodeR.tds { N with faces := fs }, Hb t = none) ∧ ∀ f ∈ fs, f.nl ≠ N.fl ∧ f.nl ≠ N.wl ∧ f.nl ≠ nodes
  old : Le Hb H
  nfl : Hb N.fl = none
  nwl : Hb N.wl = none
  hnodes : ∃ o, Hb nodes = some o
  node : ρ.lookup (Str.ofString "node") = some (.ref N.nd)
  net : ρ.lookup (Str.ofString "net") = some (.ref net)
  at_ : ρ.lookup (Str.ofString "at") = some (.int i)
  ring : ρ.lookup (Str.ofString "is_ring") = some (.bool r)
structure OI (H0 : HM) (r : Bool) (net wire nodes told : Addr) (js : List Nat) (ρ : List (Str × AV)) (H : HM) : Prop where
  ex : ∃ Ns : List NodeR, List.range Ns.length ++ js = [0, 1, 2] ∧ H nodes = some (.lst (Ns.map fun N => .ref N.nd)) ∧ (∀ N ∈ Ns, NodeOK H N ∧ N.fl ≠ nodes ∧ N.wl ≠ nodes ∧ ∀ f ∈ N.faces, f.nl ≠ nodes) ∧ (∀ i N, Ns[i]? = some N → N.faces.map FaceR.way = waysL r i) ∧ (Ns.flatMap NodeR.tds).Nodup
  old : Le H0 H
  new : H0 nodes = none
  hnet : H net = some (netD wire nodes told)
  hwire : H wire = some (.lst [])
  htold : H told = some (.arr [.int 0, .int 0])
  ne : nodes ≠ wire
  fnet : ρ.lookup (Str.ofString "net") = some (.ref net)
  ring : ρ.lookup (Str.ofString "is_ring") = some (.bool r)
theorem tds_at {H : HM} {N : NodeR} (n : NodeOK H N) {t : Addr} (h : t ∈ N.tds) : H t = some (.td []) := by
  rcases List.mem_cons.mp h with rfl | h
  · exact n.rw
  · obtain ⟨f, hf, rfl⟩ := List.mem_map.mp h
    obtain ⟨j, hj⟩ := List.getElem?_of_mem hf
    exact (n.fc j f hj).ow
noncomputable def baseL (i : Nat) : List Nat := match i with | 0 => [1, 2] | 1 => [0, 2] | _ => [1, 0]
theorem waysL_eq (r : Bool) (i : Nat) : waysL r i = (baseL i).take (degOf r i) := rfl
theorem merge_net {a b c d e : AV} : mergeA [] [("now", a), ("wire", b), ("nodes", c), ("told", d), ("came", e)] = ([("now", a), ("wire", b), ("nodes", c), ("told", d), ("came", e)] : List (Str × AV)) := by kernel_rfl
theorem merge_node {a b c : AV} : mergeA [] [("base", a), ("faces", b), ("ways", c)] = ([("base", a), ("faces", b), ("ways", c)] : List (Str × AV)) := by kernel_rfl
theorem merge_mate {a b c d : AV} : mergeA [] [("router", a), ("state", b), ("requests", c), ("owed", d)] = ([("router", a), ("state", b), ("requests", c), ("owed", d)] : List (Str × AV)) := by kernel_rfl
theorem merge_face {a b c d e : AV} : mergeA [] [("number", a), ("area", b), ("stub", c), ("state", d), ("delay", e)] = ([("number", a), ("area", b), ("stub", c), ("state", d), ("delay", e)] : List (Str × AV)) := by kernel_rfl
theorem merge_face2 {a b c d e f g h : AV} : mergeA [("number", a), ("area", b), ("stub", c), ("state", d), ("delay", e)] [("dr", f), ("bdr", g), ("neighbours", h)] = ([("number", a), ("area", b), ("stub", c), ("state", d), ("delay", e), ("dr", f), ("bdr", g), ("neighbours", h)] : List (Str × AV)) := by kernel_rfl
theorem merge_dr {a b c : AV} : mergeA [] [("dr", a), ("bdr", b), ("neighbours", c)] = ([("dr", a), ("bdr", b), ("neighbours", c)] : List (Str × AV)) := by kernel_rfl
theorem c_net (hK : IsK X) {r : Bool} {H0 : HM} : CL X 60 (.ref 301) [.bool r] H0 fun b H' => ∃ net wire nodes told ρ, b = .ref net ∧ OI H0 r net wire nodes told [] ρ H' := by
  refine cl_def (n := 58) (fn_of hK (f := 301) rfl rfl rfl) (names := ["is_ring"]) (by l_fit) (by decide) (by decide) fun L => ?_
  refine' exs_nmE ?a1
  refine' ev_dict ?y1_1 (hall := ?y1_2) (hl := ?y1_3) (h0 := ?y1_4) (hlen := ?y1_5)
  case y1_2 => exact rfl
  case y1_3 => exact rfl
  case y1_4 => exact List.cons_ne_nil _ _
  case y1_5 => exact Nat.le_of_ble_eq_true rfl
  intro net hnet
  refine' evd_cons ?a6
  refine' EV.of_PE (a := .int 100) ?a7 ?a8
  case a7 => exact pe_int
  refine' evd_cons ?a9
  refine' ev_list ?b1
  refine' evl_nil ⟨Nat.zero_le _, fun wire hwire => ?b2⟩
  refine' evd_cons ?b3
  refine' ev_list ?b4
  refine' evl_nil ⟨Nat.zero_le _, fun nodes hnodes => ?b5⟩
  refine' evd_cons ?b6
  refine' ev_arr ?b7
  refine' evl_of (as := [.int 0, .int 0]) ?b8 ⟨Nat.le_of_ble_eq_true rfl, fun told htold => ?b9⟩
  case b8 => k_all
  refine' evd_cons ?c1
  refine' EV.of_PE (a := .none) ?c2 ?c3
  case c2 => exact pe_none
  have n1 : (H0.put net (.sd [])) net = some (.sd []) := HM.put_self ..
  have n2 := (Le.refl _).put hwire (o := .lst []) _ _ n1
  have n3 := (Le.refl _).put hnodes (o := .lst []) _ _ n2
  have n4 := (Le.refl _).put htold (o := .arr [.int 0, .int 0]) _ _ n3
  refine' evd_nil ⟨n4, ?c4⟩
  rw [merge_net]
  have w2 : ((H0.put net (.sd [])).put wire (.lst [])) wire = some (.lst []) := HM.put_self ..
  have w3 := (Le.refl _).put hnodes (o := .lst []) _ _ w2
  have w4 := (Le.refl _).put htold (o := .arr [.int 0, .int 0]) _ _ w3
  have d3 : (((H0.put net (.sd [])).put wire (.lst [])).put nodes (.lst [])) nodes = some (.lst []) := HM.put_self ..
  have d4 := (Le.refl _).put htold (o := .arr [.int 0, .int 0]) _ _ d3
  have t4 : ((((H0.put net (.sd [])).put wire (.lst [])).put nodes (.lst [])).put told (.arr [.int 0, .int 0])) told = some (.arr [.int 0, .int 0]) := HM.put_self ..
  have hne : nodes ≠ wire := Ne.symm (HM.ne w2 hnodes)
  have hw0 := (Le.put (Le.refl H0) hnet (o := .sd [])).none hwire
  have hd0 := (Le.put (Le.refl H0) hnet (o := .sd [])).none ((Le.put (Le.refl _) hwire (o := .lst [])).none hnodes)
  have ht0 := (Le.put (Le.refl H0) hnet (o := .sd [])).none ((Le.put (Le.refl _) hwire (o := .lst [])).none ((Le.put (Le.refl _) hnodes (o := .lst [])).none htold))
  have old5 : Le H0 (((((H0.put net (.sd [])).put wire (.lst [])).put nodes (.lst [])).put told (.arr [.int 0, .int 0])).put net (netD wire nodes told)) := ((((Le.refl H0).put hnet).put hw0).put hd0).put ht0 |>.put hnet
  have n5 : (((((H0.put net (.sd [])).put wire (.lst [])).put nodes (.lst [])).put told (.arr [.int 0, .int 0])).put net (netD wire nodes told)) net = some (netD wire nodes told) := HM.put_self ..
  have w5 : (((((H0.put net (.sd [])).put wire (.lst [])).put nodes (.lst [])).put told (.arr [.int 0, .int 0])).put net (netD wire nodes told)) wire = some (.lst []) := (HM.put_ne _ _ (HM.ne2 w4 n4 nofun)).trans w4
  have d5 : (((((H0.put net (.sd [])).put wire (.lst [])).put nodes (.lst [])).put told (.arr [.int 0, .int 0])).put net (netD wire nodes told)) nodes = some (.lst []) := (HM.put_ne _ _ (HM.ne2 d4 n4 nofun)).trans d4
  have t5 : (((((H0.put net (.sd [])).put wire (.lst [])).put nodes (.lst [])).put told (.arr [.int 0, .int 0])).put net (netD wire nodes told)) told = some (.arr [.int 0, .int 0]) := (HM.put_ne _ _ (HM.ne2 t4 n4 nofun)).trans t4
  generalize (((((H0.put net (.sd [])).put wire (.lst [])).put nodes (.lst [])).put told (.arr [.int 0, .int 0])).put net (netD wire nodes told)) = H5 at old5 n5 w5 d5 t5 ⊢
  clear n1 n2 n3 n4 w2 w3 w4 d3 d4 t4 hnet hwire hnodes htold
  refine exs_c ?_
  refine' ex_for_range (N := 3) ?e1 ?e2 ?e3 ?e4
  case e1 => exact pe_enum hK (x := "range") rfl (by decide) rfl rfl rfl (by decide)
  case e2 => k_mem
  case e3 => decide
  refine lp_invJ (OI H0 r net wire nodes told) (fun i : Nat => .int i) ?_ ?_ rfl rfl [0, 1, 2] _ _ ⟨⟨[], rfl, d5, fun _ h => (nomatch h), fun i N h => (by cases h), List.nodup_nil⟩, old5, hd0, n5, w5, t5, hne, rfl, rfl⟩
  · rintro i js ρ H ⟨⟨Ns, e1, hnodes, hok, hdeg, hnd⟩, old, new, hnet, hwire, htold, ne, f1, f2⟩
    clear old5 n5 w5 d5 t5 hne hw0 hd0 ht0
    obtain ⟨hi, hNs⟩ : i < 3 ∧ Ns.length = i := by
      have hl : Ns.length + (1 + js.length) = 3 := by simpa [Nat.add_comm] using congrArg List.length e1
      have : Ns.length = 0 ∨ Ns.length = 1 ∨ Ns.length = 2 := by first | exact lt3 (by assumption) | omega
      rcases this with q | q | q <;> rw [q] at e1 <;> simp [List.range, List.range.loop] at e1 <;> omega
    refine' exs_nmE ?pa1
    refine' ev_dict ?y2_1 (hall := ?y2_2) (hl := ?y2_3) (h0 := ?y2_4) (hlen := ?y2_5)
    case y2_2 => exact rfl
    case y2_3 => exact rfl
    case y2_4 => exact List.cons_ne_nil _ _
    case y2_5 => exact Nat.le_of_ble_eq_true rfl
    intro nd hnd0
    refine' evd_cons ?pb1
    refine' ev_cls0 hK ?pb2 ?pb3 ?pb4
    case pb2 => k_same
    case pb3 => rfl
    refine (cl_dbnew hK (n := 49)).mono fun b H' pq0 => ?_
    obtain ⟨x, dx, rw, sl, hh, t, k, eb, hx, hdx, hrw, xd, xr, dr, eH⟩ := pq0
    subst eb eH
    refine' evd_cons ?pb5
    refine' ev_list ?pb6
    refine' evl_nil ⟨Nat.zero_le _, fun fl hfl => ?pb7⟩
    refine' evd_cons ?pb8
    refine' ev_list ?pb9
    refine' evl_nil ⟨Nat.zero_le _, fun wl hwl => ?pc1⟩
    have hnd1 : (H.put nd (.sd [])) nd = some (.sd []) := HM.put_self ..
    have l2 : Le (H.put nd (.sd [])) ((H.put nd (.sd [])).puts [(x, .raw ⟨.ref 167, some dx, .plain, sl⟩), (dx, .raw (dictOf [⟨hh, .str "rows" t, .ref rw⟩] k)), (rw, .td [])]) := (((Le.refl _).put hrw).put hdx).put hx
    have x2 : ((H.put nd (.sd [])).puts [(x, .raw ⟨.ref 167, some dx, .plain, sl⟩), (dx, .raw (dictOf [⟨hh, .str "rows" t, .ref rw⟩] k)), (rw, .td [])]) x = some (.raw ⟨.ref 167, some dx, .plain, sl⟩) := HM.put_self ..
    have dx2 : ((H.put nd (.sd [])).puts [(x, .raw ⟨.ref 167, some dx, .plain, sl⟩), (dx, .raw (dictOf [⟨hh, .str "rows" t, .ref rw⟩] k)), (rw, .td [])]) dx = some (.raw (dictOf [⟨hh, .str "rows" t, .ref rw⟩] k)) := (HM.put_ne _ _ (Ne.symm xd)).trans (HM.put_self ..)
    have rw2 : ((H.put nd (.sd [])).puts [(x, .raw ⟨.ref 167, some dx, .plain, sl⟩), (dx, .raw (dictOf [⟨hh, .str "rows" t, .ref rw⟩] k)), (rw, .td [])]) rw = some (.td []) := (HM.put_ne _ _ (Ne.symm xr)).trans ((HM.put_ne _ _ (Ne.symm dr)).trans (HM.put_self ..))
    generalize (H.put nd (.sd [])).puts [(x, .raw ⟨.ref 167, some dx, .plain, sl⟩), (dx, .raw (dictOf [⟨hh, .str "rows" t, .ref rw⟩] k)), (rw, .td [])] = H2 at l2 x2 dx2 rw2 hfl hwl ⊢
    have hle1 : Le H (H.put nd (.sd [])) := (Le.refl H).put hnd0
    have nrw : H rw = none := hle1.none hrw
    have nfl : H fl = none := (hle1.trans l2).none hfl
    have l3 : Le H2 (H2.put fl (.lst [])) := (Le.refl H2).put hfl
    have nwl : H wl = none := ((hle1.trans l2).trans l3).none hwl
    have l4 : Le H2 ((H2.put fl (.lst [])).put wl (.lst [])) := l3.put (l3.none hwl)
    have nd2 := l2 _ _ hnd1
    have nd4 := l4 _ _ nd2
    refine' evd_nil ⟨nd4, ?pc2⟩
    rw [merge_node]
    have fl3 : (H2.put fl (.lst [])) fl = some (.lst []) := HM.put_self ..
    have hnefw : fl ≠ wl := HM.ne fl3 hwl
    have N0 : NodeOK (((H2.put fl (.lst [])).put wl (.lst [])).put nd (nodeD x fl wl)) ⟨nd, x, rw, fl, wl, []⟩ := by
      have k4 : ∀ a ao, ((H2.put fl (.lst [])).put wl (.lst [])) a = some ao → ao ≠ .sd [] → (((H2.put fl (.lst [])).put wl (.lst [])).put nd (nodeD x fl wl)) a = some ao := fun a ao e q => (HM.put_ne _ _ (HM.ne2 e nd4 q)).trans e
      refine ⟨HM.put_self .., ⟨sl, dx, hh, t, k, k4 _ _ (l4 _ _ x2) nofun, k4 _ _ (l4 _ _ dx2) nofun⟩, k4 _ _ (l4 _ _ rw2) nofun, k4 _ _ ((HM.put_ne _ _ hnefw).trans fl3) nofun, k4 _ _ (HM.put_self ..) nofun, fun j f e => (by cases e), hnefw⟩
    have old5 : Le H (((H2.put fl (.lst [])).put wl (.lst [])).put nd (nodeD x fl wl)) := ((hle1.trans l2).trans l4).put hnd0
    have hndne : nodes ≠ fl := HM.ne hnodes nfl
    have hndne2 : nodes ≠ wl := HM.ne hnodes nwl
    generalize ((H2.put fl (.lst [])).put wl (.lst [])).put nd (nodeD x fl wl) = H5 at N0 old5 ⊢
    clear hfl hwl hrw hdx hx l2 x2 dx2 rw2 l3 l4 nd2 nd4 fl3 hnd1 hle1
    refine exs_forE ?_
    refine' ev_lst_upto (b := degOf r i) ?pd1
    refine' ev_sub ?pd2
    refine' ev_list ?pd3
    refine' evl_cons ?pd4
    refine' ev_list ?pd5
    refine' evl_of (as := [.int 1, .int 2]) ?pd6 ⟨Nat.le_of_ble_eq_true rfl, fun l0 hl0 => ?pd7⟩
    case pd6 => k_all
    refine' evl_cons ?pd8
    refine' ev_list ?pd9
    refine' evl_of (as := [.int 0, .int 2]) ?pe1 ⟨Nat.le_of_ble_eq_true rfl, fun l1 hl1 => ?pe2⟩
    case pe1 => k_all
    refine' evl_cons ?pe3
    refine' ev_list ?pe4
    refine' evl_of (as := [.int 1, .int 0]) ?pe5 ⟨Nat.le_of_ble_eq_true rfl, fun l2 hl2 => ?pe6⟩
    case pe5 => k_all
    refine' evl_nil ⟨Nat.le_of_ble_eq_true rfl, fun lo hlo => ?pe7⟩
    have z0 : (H5.put l0 (.lst [.int 1, .int 2])) l0 = some (.lst [.int 1, .int 2]) := HM.put_self ..
    have z0 := (((Le.refl _).put hl1 (o := .lst [.int 0, .int 2])).trans (((Le.refl _).put hl2 (o := .lst [.int 1, .int 0])).trans ((Le.refl _).put hlo (o := .lst [.ref l0, .ref l1, .ref l2])))) _ _ z0
    have z1 : ((H5.put l0 (.lst [.int 1, .int 2])).put l1 (.lst [.int 0, .int 2])) l1 = some (.lst [.int 0, .int 2]) := HM.put_self ..
    have z1 := (((Le.refl _).put hl2 (o := .lst [.int 1, .int 0])).trans ((Le.refl _).put hlo (o := .lst [.ref l0, .ref l1, .ref l2]))) _ _ z1
    have z2 : (((H5.put l0 (.lst [.int 1, .int 2])).put l1 (.lst [.int 0, .int 2])).put l2 (.lst [.int 1, .int 0])) l2 = some (.lst [.int 1, .int 0]) := HM.put_self ..
    have z2 := ((Le.refl _).put hlo (o := .lst [.ref l0, .ref l1, .ref l2])) _ _ z2
    have zo : ((((H5.put l0 (.lst [.int 1, .int 2])).put l1 (.lst [.int 0, .int 2])).put l2 (.lst [.int 1, .int 0])).put lo (.lst [.ref l0, .ref l1, .ref l2])) lo = some (.lst [.ref l0, .ref l1, .ref l2]) := HM.put_self ..
    have l6 : Le H5 ((((H5.put l0 (.lst [.int 1, .int 2])).put l1 (.lst [.int 0, .int 2])).put l2 (.lst [.int 1, .int 0])).put lo (.lst [.ref l0, .ref l1, .ref l2])) := ((Le.refl _).put hl0).trans (((Le.refl _).put hl1).trans (((Le.refl _).put hl2).trans ((Le.refl _).put hlo)))
    generalize (((H5.put l0 (.lst [.int 1, .int 2])).put l1 (.lst [.int 0, .int 2])).put l2 (.lst [.int 1, .int 0])).put lo (.lst [.ref l0, .ref l1, .ref l2]) = H6 at z0 z1 z2 zo l6 ⊢
    obtain ⟨d, hd1, hd2⟩ : ∃ d, ([.ref l0, .ref l1, .ref l2] : List AV)[((i : Nat) : Int).toNat]? = some (.ref d) ∧ H6 d = some (.lst ((baseL i).map fun o => .int (o : Nat))) := by
      have : i = 0 ∨ i = 1 ∨ i = 2 := by first | exact lt3 (by assumption) | omega
      rcases this with rfl | rfl | rfl
      · exact ⟨l0, rfl, z0⟩
      · exact ⟨l1, rfl, z1⟩
      · exact ⟨l2, rfl, z2⟩
    refine ⟨.int i, .ref d, ?_, .lst (.inl zo) (by omega) (by omega) hd1, d, _, rfl, .inl hd2, ?_, ?_, fun c hc => ?_⟩
    · k_mem
    · have : i = 0 ∨ i = 1 ∨ i = 2 := by first | exact lt3 (by assumption) | omega
      rcases this with rfl | rfl | rfl <;> exact Nat.le_of_ble_eq_true rfl
    · refine' pe_conv (a := .int (if ((i : Int) != 1 && (!r && true)) then 1 else 2)) (pe_ifi (pt_and ?pg1 fun _ => pt_and (pt_not (pt_plain ?pg2 (.bool r))) fun _ => tv_and_nil) pe_int pe_int) ?pg3
      case pg1 => k_memK
      case pg2 => k_mem
      case pg3 =>
        have : i = 0 ∨ i = 1 ∨ i = 2 := by first | exact lt3 (by assumption) | omega
        rcases this with rfl | rfl | rfl <;> cases r <;> rfl
    clear z0 z1 z2 zo hl0 hl1 hl2 hlo hd1 hd2
    rw [show ((baseL i).map fun o => AV.int (o : Nat)).take (degOf r i) = (waysL r i).map fun o => AV.int (o : Nat) by rw [waysL_eq, List.map_take]]
    refine ⟨c, _, rfl, HM.put_self .., ?_⟩
    rw [put_drop hc]
    refine lp_invJ (II H ⟨nd, x, rw, fl, wl, []⟩ (waysL r i) net nodes i r) (fun o : Nat => .int o) ?_ ?_ rfl rfl (waysL r i) _ _ ⟨⟨[], rfl, N0.le l6, List.nodup_cons.mpr ⟨nofun, List.nodup_nil⟩, fun t ht => by rw [List.mem_singleton.mp ht]; exact nrw, fun f hf => (nomatch hf)⟩, old5.trans l6, nfl, nwl, ⟨_, hnodes⟩, rfl, f1, rfl, f2⟩
    · rintro o js2 ρ H7 ⟨⟨fs, e7, ok7, nd7, new7, hnl7⟩, old7, nfl7, nwl7, ⟨o7, hno7⟩, g1, g2, g3, g4⟩
      clear N0 old5 l6 nrw hc hno7 o7
      have hfl := ok7.fl
      have hwl := ok7.wl
      have hndd := ok7.nd
      replace hfl : H7 fl = some (.lst (fs.map fun f => .ref f.fc)) := hfl
      replace hwl : H7 wl = some (.lst (fs.map fun f => .int f.way)) := hwl
      replace hndd : H7 nd = some (nodeD x fl wl) := hndd
      have hlen : fs.length ≤ 2 := by
        have := congrArg List.length e7
        have h2 : (waysL r i).length ≤ 2 := by
          have : i = 0 ∨ i = 1 ∨ i = 2 := by first | exact lt3 (by assumption) | omega
          rcases this with rfl | rfl | rfl <;> cases r <;> decide
        simp at this
        omega
      -- mate
      refine' exs_nmE ?q1
      refine' ev_dict ?y3_1 (hall := ?y3_2) (hl := ?y3_3) (h0 := ?y3_4) (hlen := ?y3_5)
      case y3_2 => exact rfl
      case y3_3 => exact rfl
      case y3_4 => exact List.cons_ne_nil _ _
      case y3_5 => exact Nat.le_of_ble_eq_true rfl
      intro md hmd
      refine' evd_cons ?q2
      refine' EV.of_PE (a := .int ((o : Int) + 1)) ?q3 ?q4
      case q3 => k_mem
      refine' evd_cons ?q5
      refine' EV.of_PE (a := .str "full") ?q6 ?q7
      case q6 => k_mem
      refine' evd_cons ?q8
      refine' ev_dict0t fun rq hrq => ?q9
      refine' evd_cons ?r1
      refine' ev_dict0t fun ow how => ?r2
      have m1 : (H7.put md (.sd [])) md = some (.sd []) := HM.put_self ..
      have m2 := (Le.refl _).put hrq (o := .td []) _ _ m1
      have m3 := (Le.refl _).put how (o := .td []) _ _ m2
      refine' evd_nil ⟨m3, ?r3⟩
      rw [merge_mate]
      have nrq : H7 rq = none := ((Le.refl H7).put hmd (o := .sd [])).none hrq
      have now_ : H7 ow = none := ((Le.refl H7).put hmd (o := .sd [])).none (((Le.refl _).put hrq (o := .td [])).none how)
      have l4 : Le H7 ((((H7.put md (.sd [])).put rq (.td [])).put ow (.td [])).put md (mateD ((o : Int) + 1) rq ow)) := (((Le.refl H7).put hmd).put nrq).put now_ |>.put hmd
      have md4 : ((((H7.put md (.sd [])).put rq (.td [])).put ow (.td [])).put md (mateD ((o : Int) + 1) rq ow)) md = some (mateD ((o : Int) + 1) rq ow) := HM.put_self ..
      have ow4 : ((((H7.put md (.sd [])).put rq (.td [])).put ow (.td [])).put md (mateD ((o : Int) + 1) rq ow)) ow = some (.td []) := (HM.put_ne _ _ (Ne.symm (HM.ne m2 how))).trans (HM.put_self ..)
      generalize (((H7.put md (.sd [])).put rq (.td [])).put ow (.td [])).put md (mateD ((o : Int) + 1) rq ow) = H8 at l4 md4 ow4 ⊢
      clear m1 m2 m3 hrq how hmd nrq
      -- face
      refine' exs_nmE ?r4
      refine' ev_dict ?y4_1 (hall := ?y4_2) (hl := ?y4_3) (h0 := ?y4_4) (hlen := ?y4_5)
      case y4_2 => exact rfl
      case y4_3 => exact rfl
      case y4_4 => exact List.cons_ne_nil _ _
      case y4_5 => exact Nat.le_of_ble_eq_true rfl
      intro fc hfc
      have nd9 := (l4.put (l4.none hfc) (o := .sd [])) _ _ hndd
      have fl9 := (l4.put (l4.none hfc) (o := .sd [])) _ _ hfl
      refine' evd_cons ?r5
      refine' EV.of_PE (a := .int ((fs.map fun f => AV.ref f.fc).length : Nat)) ?r6 ?r7
      case r6 =>
        refine' ev_bcall ?r8 ?r9 ?s1
        case r8 => k_ownIn
        case r9 => k_all
        case s1 => exact cl_len (.inl fl9) (by simp; omega)
      refine' evd_cons ?s2
      refine' EV.of_PE (a := .int 0) ?s3 ?s4
      case s3 => k_mem
      refine' evd_cons ?s5
      refine' EV.of_PE (a := .bool false) ?s6 ?s7
      case s6 => k_mem
      refine' evd_cons ?s8
      refine' EV.of_PE (a := .str "point_to_point") ?s9 ?t1
      case s9 => k_mem
      refine' evd_cons ?t2
      refine' EV.of_PE (a := .int 1) ?t3 ?t4
      case t3 => k_mem
      refine' evd_nil ⟨HM.put_self .., ?t5⟩
      rw [merge_face, List.length_map]
      clear nd9 fl9
      have l5 : Le H8 ((H8.put fc (.sd [])).put fc (.sd [("number", .int (fs.length : Nat)), ("area", .int 0), ("stub", .bool false), ("state", .str "point_to_point"), ("delay", .int 1)])) := ((Le.refl H8).put hfc).put hfc
      have fc5 : ((H8.put fc (.sd [])).put fc (.sd [("number", .int (fs.length : Nat)), ("area", .int 0), ("stub", .bool false), ("state", .str "point_to_point"), ("delay", .int 1)])) fc = some (.sd [("number", .int (fs.length : Nat)), ("area", .int 0), ("stub", .bool false), ("state", .str "point_to_point"), ("delay", .int 1)]) := HM.put_self ..
      generalize (H8.put fc (.sd [])).put fc (.sd [("number", .int (fs.length : Nat)), ("area", .int 0), ("stub", .bool false), ("state", .str "point_to_point"), ("delay", .int 1)]) = H9 at l5 fc5 ⊢
      -- face.update
      refine' exs_ex ?t6
      refine' ev_methE ?t7 ?t8 ?t9 F.plainAttrs_dict F.slot_dict_update F.type_dict_update
      case t7 => k_mem
      case t9 => exact ty_sd (.inl fc5)
      case t8 =>
      refine' evl_cons ?u1
      refine' ev_dict ?y5_1 (hall := ?y5_2) (hl := ?y5_3) (h0 := ?y5_4) (hlen := ?y5_5)
      case y5_2 => exact rfl
      case y5_3 => exact rfl
      case y5_4 => exact List.cons_ne_nil _ _
      case y5_5 => exact Nat.le_of_ble_eq_true rfl
      intro d2 hd2
      refine' evd_cons ?u2
      refine' EV.of_PE (a := .int 0) ?u3 ?u4
      case u3 => k_mem
      refine' evd_cons ?u5
      refine' EV.of_PE (a := .int 0) ?u6 ?u7
      case u6 => k_mem
      refine' evd_cons ?u8
      refine' ev_list ?u9
      refine' evl_of (as := [.ref md]) ?v1 ⟨Nat.le_of_ble_eq_true rfl, fun nl hnl => ?v2⟩
      case v1 => k_all
      have d20 : (H9.put d2 (.sd [])) d2 = some (.sd []) := HM.put_self ..
      have d21 := (Le.refl _).put hnl (o := .lst [.ref md]) _ _ d20
      refine' evd_nil ⟨d21, ?v3⟩
      rw [merge_dr]
      refine' evl_nil ?v4
      have nnl : H9 nl = none := ((Le.refl H9).put hd2 (o := .sd [])).none hnl
      have l6 : Le H9 (((H9.put d2 (.sd [])).put nl (.lst [.ref md])).put d2 (.sd [("dr", .int 0), ("bdr", .int 0), ("neighbours", .ref nl)])) := (((Le.refl H9).put hd2).put nnl).put hd2
      have nl6 : (((H9.put d2 (.sd [])).put nl (.lst [.ref md])).put d2 (.sd [("dr", .int 0), ("bdr", .int 0), ("neighbours", .ref nl)])) nl = some (.lst [.ref md]) := (HM.put_ne _ _ (Ne.symm (HM.ne d20 hnl))).trans (HM.put_self ..)
      have d26 : (((H9.put d2 (.sd [])).put nl (.lst [.ref md])).put d2 (.sd [("dr", .int 0), ("bdr", .int 0), ("neighbours", .ref nl)])) d2 = some (.sd [("dr", .int 0), ("bdr", .int 0), ("neighbours", .ref nl)]) := HM.put_self ..
      generalize ((H9.put d2 (.sd [])).put nl (.lst [.ref md])).put d2 (.sd [("dr", .int 0), ("bdr", .int 0), ("neighbours", .ref nl)]) = H10 at l6 nl6 d26 ⊢
      have fc6 := l6 _ _ fc5
      have u3 := cl_update (X := X) (n := 10) fc6 d26 (HM.ne fc5 hd2) (Nat.le_of_ble_eq_true rfl)
      refine (u3.less (by decide)).mono fun b H' e => ?_
      rw [merge_face2] at e
      subst e
      have nfl : H8 nl = none := l5.none nnl
      have l7 : Le H8 (H10.put fc (faceD (fs.length : Nat) nl)) := (l5.trans l6).put hfc
      have fc7 : (H10.put fc (faceD (fs.length : Nat) nl)) fc = some (faceD (fs.length : Nat) nl) := HM.put_self ..
      have nl7 : (H10.put fc (faceD (fs.length : Nat) nl)) nl = some (.lst [.ref md]) := (HM.put_ne _ _ (HM.ne2 nl6 fc6 nofun)).trans nl6
      generalize H10.put fc (faceD (fs.length : Nat) nl) = H11 at l7 fc7 nl7 ⊢
      clear l5 l6 nl6 d26 d20 d21 fc5 fc6 u3 hnl hd2 hfc nnl
      have l11 := l4.trans l7
      have nd11 := l11 _ _ hndd
      have fl11 := l11 _ _ hfl
      have wl11 := l11 _ _ hwl
      -- appends
      refine' exs_ex ?w1
      refine' ev_meth ?w2 ?w3 ?w4 F.plainAttrs_list F.slot_list_append F.type_list_append ?w5
      case w2 => k_mem
      case w3 => k_all
      case w4 => exact ty_lst (.inl fl11)
      refine (cl_append fl11 (by simp; omega)).mono fun b H' pq0 => ?_
      obtain ⟨_, e⟩ := pq0
      subst e
      have hnefw2 : wl ≠ fl := Ne.symm hnefw
      have nd12 : (H11.put fl (.lst ((fs.map fun f => AV.ref f.fc) ++ [.ref fc]))) nd = some (nodeD x fl wl) := (HM.put_ne _ _ (HM.ne2 nd11 fl11 nofun)).trans nd11
      have wl12 : (H11.put fl (.lst ((fs.map fun f => AV.ref f.fc) ++ [.ref fc]))) wl = some (.lst (fs.map fun f => .int f.way)) := (HM.put_ne _ _ hnefw2).trans wl11
      refine' exs_ex ?w6
      refine' ev_meth ?w7 ?w8 ?w9 F.plainAttrs_list F.slot_list_append F.type_list_append ?x1
      case w7 => k_mem
      case w8 => k_all
      case w9 => exact ty_lst (.inl wl12)
      refine (cl_append wl12 (by simp; omega)).mono fun b H' pq0 => ?_
      obtain ⟨_, e⟩ := pq0
      subst e
      refine exs_0 ⟨.inl rfl, ?_⟩
      have kk : ∀ a ao, H11 a = some ao → a ≠ fl → a ≠ wl → ((H11.put fl (.lst ((fs.map fun f => AV.ref f.fc) ++ [.ref fc]))).put wl (.lst ((fs.map fun f => AV.int f.way) ++ [.int o]))) a = some ao := fun a ao e q1 q2 => (HM.put_ne _ _ q2).trans ((HM.put_ne _ _ q1).trans e)
      have kn : ∀ a ao, H11 a = some ao → (∀ xs, ao ≠ .lst xs) → ((H11.put fl (.lst ((fs.map fun f => AV.ref f.fc) ++ [.ref fc]))).put wl (.lst ((fs.map fun f => AV.int f.way) ++ [.int o]))) a = some ao := fun a ao e q => kk a ao e (HM.ne2 e fl11 (q _)) (HM.ne2 e wl11 (q _))
      have nlfl : nl ≠ fl := fun q => by rw [q, l4 _ _ hfl] at nfl; cases nfl
      have nlwl : nl ≠ wl := fun q => by rw [q, l4 _ _ hwl] at nfl; cases nfl
      refine ⟨⟨fs ++ [⟨o, fc, nl, md, rq, ow⟩], ?_, ?_, ?_, ?_, ?_⟩, fun a ao e => kk _ _ (l11 _ _ (old7 _ _ e)) (HM.ne e nfl7) (HM.ne e nwl7), nfl7, nwl7, ⟨_, hnodes⟩, g1, g2, g3, g4⟩
      · rw [← e7]; simp
      · have ok11 := ok7.le l11
        refine ⟨kn _ _ nd11 fun _ => nofun, ?_, kn _ _ ok11.rw fun _ => nofun, ?_, ?_, ?_, hnefw⟩
        · obtain ⟨sl', dx', hh', t', k', e1, e2⟩ := ok11.db
          exact ⟨sl', dx', hh', t', k', kn _ _ e1 fun _ => nofun, kn _ _ e2 fun _ => nofun⟩
        · show ((H11.put fl _).put wl _) fl = _
          rw [HM.put_ne _ _ hnefw, HM.put_self]; simp
        · show ((H11.put fl _).put wl _) wl = _
          rw [HM.put_self]; simp
        · intro j f ej
          replace ej : (fs ++ [(⟨o, fc, nl, md, rq, ow⟩ : FaceR)])[j]? = some f := ej
          rw [List.getElem?_append] at ej
          split at ej
          · have F := ok11.fc j f ej
            obtain ⟨q1, q2, _⟩ := hnl7 f (List.mem_of_getElem? ej)
            exact ⟨kn _ _ F.fc fun _ => nofun, kk _ _ F.nl q1 q2, kn _ _ F.md fun _ => nofun, kn _ _ F.ow fun _ => nofun⟩
          · rename_i hj
            have : j - fs.length = 0 := by
              cases q : j - fs.length with
              | zero => rfl
              | succ m => rw [q] at ej; simp at ej
            rw [this] at ej
            simp at ej
            subst ej
            have hjl : j = fs.length := by omega
            subst hjl
            exact ⟨kn _ _ fc7 fun _ => nofun, kk _ _ nl7 nlfl nlwl, kn _ _ (l7 _ _ md4) fun _ => nofun, kn _ _ (l7 _ _ ow4) fun _ => nofun⟩
      · show (rw :: (fs ++ [(⟨o, fc, nl, md, rq, ow⟩ : FaceR)]).map FaceR.ow).Nodup
        rw [List.map_append]
        have : (NodeR.tds ⟨nd, x, rw, fl, wl, fs⟩ ++ [ow]).Nodup := by
          rw [List.nodup_append]
          refine ⟨nd7, by simp, fun a ha b hb => ?_⟩
          rw [List.mem_singleton.mp hb]
          exact HM.ne (tds_at ok7 ha) now_
        exact this
      · intro t' ht
        replace ht : t' ∈ rw :: (fs ++ [(⟨o, fc, nl, md, rq, ow⟩ : FaceR)]).map FaceR.ow := ht
        have ht2 : t' ∈ NodeR.tds ⟨nd, x, rw, fl, wl, fs⟩ ∨ t' = ow := by
          rcases List.mem_cons.mp ht with h | h
          · exact .inl (h ▸ .head _)
          · rw [List.map_append, List.mem_append] at h
            rcases h with h | h
            · exact .inl (.tail _ h)
            · exact .inr (List.mem_singleton.mp h)
        rcases ht2 with h | rfl
        · exact new7 _ h
        · exact old7.none now_
      · intro f hf
        rcases List.mem_append.mp hf with h | h
        · exact hnl7 f h
        · rw [List.mem_singleton.mp h]
          exact ⟨nlfl, nlwl, fun q => by rw [show nl = nodes from q, l4 _ _ (old7 _ _ hnodes)] at nfl; cases nfl⟩
    · rintro ρ7 H7 ⟨⟨fs, e7, ok7, nd7, new7, hnl7⟩, old7, nfl7, nwl7, _, g1, g2, g3, g4⟩
      intro hc7
      refine cont_next ?_
      refine exs_forget (sub_put hc7) ?_
      have hnet7 := old7 _ _ hnet
      have hnodes7 := old7 _ _ hnodes
      have hwire7 := old7 _ _ hwire
      have htold7 := old7 _ _ htold
      refine' exs_ex ?k1
      refine' ev_meth ?k2 ?k3 ?k4 F.plainAttrs_list F.slot_list_append F.type_list_append ?k5
      case k2 => k_mem
      case k3 => k_all
      case k4 => exact ty_lst (.inl hnodes7)
      refine (cl_append hnodes7 (by simp; omega)).mono fun b H' pq0 => ?_
      obtain ⟨_, e⟩ := pq0
      subst e
      have kn : ∀ a ao, H7 a = some ao → a ≠ nodes → (H7.put nodes (.lst ((Ns.map fun N => AV.ref N.nd) ++ [.ref nd]))) a = some ao := fun a ao e q => (HM.put_ne _ _ q).trans e
      have km : ∀ a ao, H7 a = some ao → (∀ xs, ao ≠ .lst xs) → (H7.put nodes (.lst ((Ns.map fun N => AV.ref N.nd) ++ [.ref nd]))) a = some ao := fun a ao e q => kn a ao e (HM.ne2 e hnodes7 (q _))
      have kk : ∀ N : NodeR, NodeOK H7 N → N.fl ≠ nodes → N.wl ≠ nodes → (∀ f ∈ N.faces, f.nl ≠ nodes) → NodeOK (H7.put nodes (.lst ((Ns.map fun N => AV.ref N.nd) ++ [.ref nd]))) N := fun N n q1 q2 q3 => n.keep km (HM.put_ne _ _ q1) (HM.put_ne _ _ q2) fun f hf => HM.put_ne _ _ (q3 f hf)
      refine exs_0 ⟨.inl rfl, ⟨⟨Ns ++ [⟨nd, x, rw, fl, wl, fs⟩], ?_, ?_, ?_, ?_, ?_⟩, fun a ao e => kn _ _ (old7 _ _ (old _ _ e)) (HM.ne e new), new, km _ _ hnet7 fun _ => nofun, kn _ _ hwire7 (Ne.symm ne), km _ _ htold7 fun _ => nofun, ne, g2, g4⟩⟩
      · rw [← e1, List.length_append, List.length_singleton, List.range_succ, hNs]; simp
      · rw [HM.put_self]; simp
      · intro N hN
        rcases List.mem_append.mp hN with h | h
        · obtain ⟨n, q1, q2, q3⟩ := hok N h
          exact ⟨kk N (n.le old7) q1 q2 q3, q1, q2, q3⟩
        · rw [List.mem_singleton.mp h]
          exact ⟨kk _ ok7 (Ne.symm hndne) (Ne.symm hndne2) fun f hf => (hnl7 f hf).2.2, Ne.symm hndne, Ne.symm hndne2, fun f hf => (hnl7 f hf).2.2⟩
      · intro j N ej
        rw [List.getElem?_append] at ej
        split at ej
        · exact hdeg j N ej
        · rename_i hj
          have : j - Ns.length = 0 := by
            cases q : j - Ns.length with
            | zero => rfl
            | succ m => rw [q] at ej; simp at ej
          rw [this] at ej
          simp at ej
          subst ej
          have hji : j = i := by omega
          subst hji
          simpa using e7
      · rw [List.flatMap_append, List.nodup_append]
        refine ⟨hnd, by simpa using nd7, fun a ha b hb => ?_⟩
        obtain ⟨N, hN, ha⟩ := List.mem_flatMap.mp ha
        have hb : b ∈ NodeR.tds ⟨nd, x, rw, fl, wl, fs⟩ := by simpa using hb
        exact HM.ne (tds_at (hok N hN).1 ha) (new7 b hb)
  · rintro ρ H h
    have f1 := h.fnet
    refine cont_next ?_
    refine' exs_ret ?o1 ?o2
    case o1 => k_mem
    exact ⟨net, wire, nodes, told, ρ, rfl, h⟩
end

-- TPl
section
variable {w : World} {X : Cx PW w}

theorem look_store {κ : Type} [DecidableEq κ] (k k' : κ) (v : AV) : ∀ m : List (κ × AV), lookA (storeA m k v) k' = if k = k' then some v else lookA m k'
  | [] => rfl
  | (a, x) :: m => by
    have ih := look_store k k' v m
    unfold storeA
    by_cases h : a = k
    · rw [if_pos h]
      subst h
      unfold lookA
      by_cases h' : a = k'
      · rw [if_pos h', if_pos h']
      · rw [if_neg h', if_neg h', if_neg h']
    · rw [if_neg h]
      unfold lookA
      by_cases h' : a = k'
      · subst h'; rw [if_pos rfl, if_neg (Ne.symm h), if_pos rfl]
      · rw [if_neg h', if_neg h', ih]
theorem look_none_of {κ : Type} [DecidableEq κ] (k : κ) : ∀ m : List (κ × AV), k ∉ m.map (·.1) → lookA m k = none
  | [], _ => rfl
  | (a, x) :: m, h => by
    rw [List.map_cons, List.mem_cons, not_or] at h
    unfold lookA
    rw [if_neg (Ne.symm h.1)]
    exact look_none_of k m h.2
theorem look_some_of {κ : Type} [DecidableEq κ] (k : κ) : ∀ m : List (κ × AV), k ∈ m.map (·.1) → ∃ v, lookA m k = some v
  | [], h => by cases h
  | (a, x) :: m, h => by
    unfold lookA
    by_cases h' : a = k
    · rw [if_pos h']; exact ⟨x, rfl⟩
    · rw [if_neg h']
      rw [List.map_cons] at h
      rcases List.mem_cons.mp h with h | h
      · exact absurd h.symm h'
      · exact look_some_of k m h
theorem keys_store {κ : Type} [DecidableEq κ] (k : κ) (v : AV) : ∀ m : List (κ × AV), (storeA m k v).map (·.1) = if k ∈ m.map (·.1) then m.map (·.1) else m.map (·.1) ++ [k]
  | [] => by simp [storeA]
  | (a, x) :: m => by
    have ih := keys_store k v m
    unfold storeA
    by_cases h : a = k
    · subst h; simp
    · rw [if_neg h, List.map_cons, ih, List.map_cons]
      have : (k ∈ a :: m.map (·.1)) ↔ k ∈ m.map (·.1) := by simp [Ne.symm h]
      by_cases h2 : k ∈ m.map (·.1)
      · rw [if_pos h2, if_pos (this.mpr h2)]
      · rw [if_neg h2, if_neg (fun q => h2 (this.mp q))]; rfl
theorem keys_drop {κ : Type} [DecidableEq κ] (k : κ) : ∀ m : List (κ × AV), (m.map (·.1)).Nodup → (dropA m k).map (·.1) = (m.map (·.1)).filter fun x => decide (x ≠ k)
  | [], _ => rfl
  | (a, x) :: m, h => by
    rw [List.map_cons, List.nodup_cons] at h
    unfold dropA
    by_cases h' : a = k
    · subst h'
      rw [if_pos rfl, List.map_cons, List.filter_cons_of_neg (by simp)]
      symm
      rw [List.filter_eq_self]
      intro b hb
      have : b ≠ a := fun e => h.1 (e ▸ hb)
      simpa using this
    · rw [if_neg h', List.map_cons, keys_drop k m h.2, List.map_cons, List.filter_cons_of_pos (by simpa using h')]
theorem look_drop {κ : Type} [DecidableEq κ] (k k' : κ) : ∀ m : List (κ × AV), (m.map (·.1)).Nodup → lookA (dropA m k) k' = if k = k' then none else lookA m k'
  | [], _ => by simp [dropA, lookA]
  | (a, x) :: m, h => by
    have ih := look_drop k k' m
    rw [List.map_cons, List.nodup_cons] at h
    unfold dropA
    by_cases h' : a = k
    · subst h'
      rw [if_pos rfl]
      by_cases h2 : a = k'
      · subst h2; rw [if_pos rfl]; exact look_none_of _ _ h.1
      · rw [if_neg h2]; conv => rhs; unfold lookA
        rw [if_neg h2]
    · rw [if_neg h']
      unfold lookA
      by_cases h2 : a = k'
      · subst h2; rw [if_pos rfl, if_pos rfl, if_neg (Ne.symm h')]
      · rw [if_neg h2, if_neg h2, ih h.2]

/-- the keys that may stand -/
structure KeysOK (m : Mp) : Prop where
  nd : (m.map (·.1)).Nodup
  sub : ∀ k ∈ m.map (·.1), k = [1, 7, 1] ∨ k = [1, 7, 2]
theorem KeysOK.nil : KeysOK [] := ⟨List.nodup_nil, fun _ h => nomatch h⟩
theorem KeysOK.store {m : Mp} (h : KeysOK m) {k : List Int} (hk : k = [1, 7, 1] ∨ k = [1, 7, 2]) (v : AV) : KeysOK (storeA m k v) := by
  constructor
  · rw [keys_store]
    split
    · exact h.nd
    · rename_i q
      rw [List.nodup_append]
      exact ⟨h.nd, by simp, fun a ha b hb e => q (by rw [List.mem_singleton.mp hb] at e; exact e ▸ ha)⟩
  · intro x hx
    rw [keys_store] at hx
    split at hx
    · exact h.sub x hx
    · rcases List.mem_append.mp hx with q | q
      · exact h.sub x q
      · rw [List.mem_singleton.mp q]; exact hk
theorem KeysOK.drop {m : Mp} (h : KeysOK m) (k : List Int) : KeysOK (dropA m k) := by
  constructor
  · rw [keys_drop k m h.nd]; exact h.nd.filter _
  · intro x hx
    rw [keys_drop k m h.nd] at hx
    exact h.sub x (List.mem_filter.mp hx).1
theorem KeysOK.len {m : Mp} (h : KeysOK m) : m.length ≤ 2 := by
  have h1 : (m.map (·.1)).length ≤ 2 := by
    have hn := h.nd
    have hs := h.sub
    generalize m.map (·.1) = l at hn hs
    match l, hn, hs with
    | [], _, _ => simp
    | [_], _, _ => simp
    | [_, _], _, _ => simp
    | a :: b :: c :: r, hn, hs =>
      exfalso
      have ha := hs a (by simp)
      have hb := hs b (by simp)
      have hc := hs c (by simp)
      simp only [List.nodup_cons, List.mem_cons, not_or] at hn
      obtain ⟨⟨n1, n2, _⟩, ⟨n3, _⟩, _⟩ := hn
      rcases ha with rfl | rfl <;> rcases hb with rfl | rfl <;> rcases hc with rfl | rfl <;> first | exact n1 rfl | exact n2 rfl | exact n3 rfl
  simpa using h1
theorem key_spot {s : Nat} (h : s < 2) : ([1, 7, (s : Int) + 1] : List Int) = [1, 7, 1] ∨ ([1, 7, (s : Int) + 1] : List Int) = [1, 7, 2] := by
  have : s = 0 ∨ s = 1 := by first | exact lt2 (by assumption) | omega
  rcases this with rfl | rfl
  · exact .inl rfl
  · exact .inr rfl
theorem key_inj {s s' : Nat} : ([1, 7, (s : Int) + 1] : List Int) = [1, 7, (s' : Int) + 1] ↔ s = s' := by
  constructor
  · intro h
    simp only [List.cons.injEq, and_true, true_and] at h
    omega
  · rintro rfl; rfl

/-- the way back -/
theorem Lay.back (A : Lay X) {i j : Nat} (hi : i < 3) (hj : j < A.deg i) : ∃ j', j' < A.deg (A.way i j) ∧ A.way (A.way i j) j' = i := by
  have hw := A.hway i hi j hj
  have e := A.eway i hi j hj
  have hd := A.edeg i hi
  rw [e] at hw ⊢
  rw [hd] at hj
  have hd2 := A.edeg (wayOf i j) hw
  have h3 : i = 0 ∨ i = 1 ∨ i = 2 := by first | exact lt3 (by assumption) | omega
  have key : ∃ j', j' < degOf A.ring (wayOf i j) ∧ wayOf (wayOf i j) j' = i := by
    have hj2 : j < 2 := by
      have : degOf A.ring i ≤ 2 := by unfold degOf; split <;> omega
      omega
    have hj3 : j = 0 ∨ j = 1 := by first | exact lt2 (by assumption) | omega
    generalize A.ring = r at hj
    rcases h3 with rfl | rfl | rfl <;> rcases hj3 with rfl | rfl <;> cases r <;> first
      | exact absurd hj (by decide)
      | exact ⟨0, by decide, by decide⟩
      | exact ⟨1, by decide, by decide⟩
  obtain ⟨j', h1, h2⟩ := key
  refine ⟨j', by rw [hd2]; exact h1, ?_⟩
  rw [A.eway _ hw j' (by rw [hd2]; exact h1)]
  exact h2
theorem Lay.way_ne (A : Lay X) {i j : Nat} (hi : i < 3) (hj : j < A.deg i) : A.way i j ≠ i := by
  rw [A.eway i hi j hj]
  have hd := A.hdeg i hi
  have h3 : i = 0 ∨ i = 1 ∨ i = 2 := by first | exact lt3 (by assumption) | omega
  have hj3 : j = 0 ∨ j = 1 := by first | exact lt2 (by assumption) | omega
  rcases h3 with rfl | rfl | rfl <;> rcases hj3 with rfl | rfl <;> decide

structure MsgOK (A : Lay X) (hv : Nat → Nat → Int) (B : Int) (m : AV) : Prop where
  ex : ∃ (g j s : Nat) (a n : Int), g < 3 ∧ j < A.deg g ∧ s < 2 ∧ 0 ≤ a ∧ a ≤ B ∧ 1 ≤ n ∧ n ≤ hv (A.way g j) s ∧
    (m = .tup [.int g, .int (A.way g j), .str "row", lsaV a s n] ∨ m = .tup [.int g, .int (A.way g j), .str "ack", headV a s n])
theorem MsgOK.mono {A : Lay X} {hv hv' : Nat → Nat → Int} {B B' : Int} {m : AV} (h : MsgOK A hv B m) (hB : B ≤ B') (k : ∀ i < 3, ∀ s, s < 2 → hv i s ≤ hv' i s) : MsgOK A hv' B' m := by
  obtain ⟨g, j, s, a, n, h1, h2, h3, h4, h5, h6, h7, h8⟩ := h.ex
  exact ⟨g, j, s, a, n, h1, h2, h3, h4, Int.le_trans h5 hB, h6, Int.le_trans h7 (k _ (A.hway g h1 j h2) s h3), h8⟩
/-- a row sent from i over its face j -/
theorem msg_row (A : Lay X) {hv : Nat → Nat → Int} {B a n : Int} {i j s : Nat} (hi : i < 3) (hj : j < A.deg i) (hs : s < 2) (h0 : 0 ≤ a) (h1 : a ≤ B) (hn : 1 ≤ n) (hh : n ≤ hv i s) : MsgOK A hv B (A.rowMsg i (lsaV a s n) j) := by
  obtain ⟨j', h1', h2'⟩ := A.back hi hj
  refine ⟨A.way i j, j', s, a, n, A.hway i hi j hj, h1', hs, h0, h1, hn, by rw [h2']; exact hh, .inl ?_⟩
  unfold Lay.rowMsg
  rw [h2']
theorem msg_ack (A : Lay X) {hv : Nat → Nat → Int} {B a n : Int} {i j s : Nat} (hi : i < 3) (hj : j < A.deg i) (hs : s < 2) (h0 : 0 ≤ a) (h1 : a ≤ B) (hn : 1 ≤ n) (hh : n ≤ hv i s) : MsgOK A hv B (.tup [.int (A.way i j), .int i, .str "ack", headV a s n]) := by
  obtain ⟨j', h1', h2'⟩ := A.back hi hj
  exact ⟨A.way i j, j', s, a, n, A.hway i hi j hj, h1', hs, h0, h1, hn, by rw [h2']; exact hh, .inr (by rw [h2'])⟩

structure Inv (A : Lay X) (st : St) (hv : Nat → Nat → Int) (ov : Nat → Nat → Nat → Int) (B : Int) : Prop where
  row : ∀ i, i < 3 → ∀ s : Nat, s < 2 → (lookA (st.rows i) [1, 7, (s : Int) + 1] = none ∧ hv i s = 0) ∨ ∃ b t, lookA (st.rows i) [1, 7, (s : Int) + 1] = some (.tup [lsaV b s (hv i s), .int t]) ∧ 1 ≤ hv i s ∧ 0 ≤ b ∧ t ≤ st.now ∧ b + (st.now - t) ≤ B
  owed : ∀ i, i < 3 → ∀ j, j < A.deg i → ∀ s : Nat, s < 2 → (lookA (st.owed i j) [1, 7, (s : Int) + 1] = none ∧ ov i j s = 0) ∨ ∃ b, lookA (st.owed i j) [1, 7, (s : Int) + 1] = some (lsaV b s (ov i j s)) ∧ ov i j s = hv i s ∧ 1 ≤ ov i j s ∧ 0 ≤ b ∧ b ≤ B
  rk : ∀ i, KeysOK (st.rows i)
  ok : ∀ i j, KeysOK (st.owed i j)
  top : ∀ i, i < 3 → ∀ s, s < 2 → hv i s ≤ st.toldN s
  own : ∀ s, s < 2 → hv s s = st.toldN s
  lag : ∀ i, i < 3 → ∀ j, j < A.deg i → ∀ s, s < 2 → hv (A.way i j) s < hv i s → ov i j s ≠ 0
  wire : ∀ m ∈ st.wire, MsgOK A hv B m
structure Step (A : Lay X) (hv0 hv : Nat → Nat → Int) (ov0 ov : Nat → Nat → Nat → Int) (came : AV) : Prop where
  up : ∀ i, i < 3 → ∀ s, s < 2 → hv0 i s ≤ hv i s
  gone : ∀ i, i < 3 → ∀ j, j < A.deg i → ∀ s : Nat, s < 2 → 0 < ov0 i j s → ov i j s = 0 → hv i s = ov0 i j s → came = .tup [.int i, .int (A.way i j), key3 ((s : Int) + 1), .int (ov0 i j s)]
theorem Inv.hv0 {A : Lay X} {st : St} {hv : Nat → Nat → Int} {ov : Nat → Nat → Nat → Int} {B : Int} (h : Inv A st hv ov B) {i s : Nat} (hi : i < 3) (hs : s < 2) : 0 ≤ hv i s := by
  rcases h.row i hi s hs with ⟨_, e⟩ | ⟨_, _, _, e, _⟩ <;> omega
theorem Inv.ov_le {A : Lay X} {st : St} {hv : Nat → Nat → Int} {ov : Nat → Nat → Nat → Int} {B : Int} (h : Inv A st hv ov B) {i j s : Nat} (hi : i < 3) (hj : j < A.deg i) (hs : s < 2) : ov i j s = 0 ∨ (ov i j s = hv i s ∧ 1 ≤ ov i j s) := by
  rcases h.owed i hi j hj s hs with ⟨_, e⟩ | ⟨_, _, e, e2, _⟩
  · exact .inl e
  · exact .inr ⟨e, e2⟩
/-- time goes on, the ages' bound grows -/
theorem Inv.later {A : Lay X} {st : St} {hv : Nat → Nat → Int} {ov : Nat → Nat → Nat → Int} {B d : Int} (h : Inv A st hv ov B) (hd : 0 ≤ d) (came : AV) (bk : Int) : Inv A { st with now := st.now + d, came := came, bk := bk } hv ov (B + d) where
  row := fun i hi s hs => (h.row i hi s hs).imp id fun ⟨b, t, h1, h2, h3, h4, h5⟩ => ⟨b, t, h1, h2, h3, by show t ≤ st.now + d; omega, by show b + (st.now + d - t) ≤ B + d; omega⟩
  owed := fun i hi j hj s hs => (h.owed i hi j hj s hs).imp id fun ⟨b, h1, h2, h3, h4, h5⟩ => ⟨b, h1, h2, h3, h4, by omega⟩
  rk := h.rk
  ok := h.ok
  top := h.top
  own := h.own
  lag := h.lag
  wire := fun m hm => (h.wire m hm).mono (by omega) fun _ _ _ _ => Int.le_refl _
end

-- TPl2
section
variable {w : World} {X : Cx PW w}

noncomputable def setV (hv : Nat → Nat → Int) (g s : Nat) (n : Int) : Nat → Nat → Int := fun i s' => if i = g ∧ s' = s then n else hv i s'
noncomputable def setO (ov : Nat → Nat → Nat → Int) (g s : Nat) (f : Nat → Int) : Nat → Nat → Nat → Int := fun i j s' => if i = g ∧ s' = s then f j else ov i j s'
theorem forgets_owed (i : Nat) (k : Int) : ∀ (js : List Nat) (st : St), js.Nodup → ∀ a b, (st.forgets i k js).owed a b = if a = i ∧ b ∈ js then dropA (st.owed a b) [1, 7, k] else st.owed a b
  | [], st, _, a, b => by simp [St.forgets]
  | j :: js, st, hn, a, b => by
    rw [List.nodup_cons] at hn
    unfold St.forgets
    rw [forgets_owed i k js _ hn.2]
    by_cases ha : a = i
    · by_cases hb : b = j
      · subst ha hb
        simp [hn.1, St.setOwed]
      · subst ha
        have : ¬ (a = a ∧ b = j) := fun q => hb q.2
        simp [St.setOwed, hb]
    · simp [ha, St.setOwed]
theorem floods_owed (i : Nat) (skip : Option Nat) (p : Int) (lsa : AV) : ∀ (js : List Nat) (st : St), js.Nodup → ∀ a b, (st.floods i skip p lsa js).owed a b = if a = i ∧ b ∈ js ∧ skip ≠ some b then storeA (st.owed a b) [1, 7, p + 1] lsa else st.owed a b
  | [], st, _, a, b => by simp [St.floods]
  | j :: js, st, hn, a, b => by
    rw [List.nodup_cons] at hn
    unfold St.floods
    rw [floods_owed i skip p lsa js _ hn.2]
    by_cases hsk : skip = some j
    · rw [if_pos hsk]
      by_cases ha : a = i
      · by_cases hb : b = j
        · subst ha hb; simp [hsk, hn.1]
        · simp [ha, hb]
      · simp [ha]
    · rw [if_neg hsk]
      by_cases ha : a = i
      · by_cases hb : b = j
        · subst ha hb; simp [hsk, hn.1, St.setOwed]
        · simp [ha, hb, St.setOwed]
      · simp [ha, St.setOwed]
theorem forgets_keep8 (i : Nat) (k : Int) : ∀ (js : List Nat) (st : St), (st.forgets i k js).rows = st.rows ∧ (st.forgets i k js).wire = st.wire ∧ (st.forgets i k js).now = st.now ∧ (st.forgets i k js).t0 = st.t0 ∧ (st.forgets i k js).t1 = st.t1 ∧ (st.forgets i k js).came = st.came ∧ (st.forgets i k js).bl = st.bl ∧ (st.forgets i k js).bk = st.bk
  | [], st => ⟨rfl, rfl, rfl, rfl, rfl, rfl, rfl, rfl⟩
  | j :: js, st => by unfold St.forgets; exact forgets_keep8 i k js _
theorem floods_keep8 (i : Nat) (skip : Option Nat) (p : Int) (lsa : AV) : ∀ (js : List Nat) (st : St), (st.floods i skip p lsa js).rows = st.rows ∧ (st.floods i skip p lsa js).wire = st.wire ∧ (st.floods i skip p lsa js).now = st.now ∧ (st.floods i skip p lsa js).t0 = st.t0 ∧ (st.floods i skip p lsa js).t1 = st.t1 ∧ (st.floods i skip p lsa js).came = st.came ∧ (st.floods i skip p lsa js).bl = st.bl ∧ (st.floods i skip p lsa js).bk = st.bk
  | [], st => ⟨rfl, rfl, rfl, rfl, rfl, rfl, rfl, rfl⟩
  | j :: js, st => by
    unfold St.floods
    have h := floods_keep8 i skip p lsa js (if skip = some j then st else st.setOwed i j (storeA (st.owed i j) [1, 7, p + 1] lsa))
    by_cases hs : skip = some j
    · rw [if_pos hs] at h ⊢; exact h
    · rw [if_neg hs] at h ⊢; exact h
/-- what a row taken makes -/
structure TakeIs (st st' : St) (A : Lay X) (g : Nat) (skip : Option Nat) (s : Nat) (a n : Int) : Prop where
  rows : ∀ i, st'.rows i = if i = g then storeA (st.rows g) [1, 7, (s : Int) + 1] (.tup [lsaV a s n, .int st.now]) else st.rows i
  owed : ∀ i j, st'.owed i j = if i = g ∧ j < A.deg g then (if skip = some j then dropA (st.owed i j) [1, 7, (s : Int) + 1] else storeA (dropA (st.owed i j) [1, 7, (s : Int) + 1]) [1, 7, (s : Int) + 1] (lsaV a s n)) else st.owed i j
  wire : st'.wire = st.wire ++ ((List.range (A.deg g)).filter fun j => decide (skip ≠ some j)).map (A.rowMsg g (lsaV (older a 1) s n))
  now : st'.now = st.now
  t0 : st'.t0 = st.t0
  t1 : st'.t1 = st.t1
  came : st'.came = st.came
  bl : st'.bl = st.bl
  bk : st'.bk = st.bk
theorem take_is (st : St) (A : Lay X) (g : Nat) (skip : Option Nat) (s : Nat) (a n : Int) : TakeIs st (st.take A g skip s a n) A g skip s a n := by
  have f1 := forgets_keep8 g (s + 1) (List.range (A.deg g)) st
  have f2 := floods_keep8 g skip s (lsaV a s n) (List.range (A.deg g)) (st.forgets g (s + 1) (List.range (A.deg g)))
  obtain ⟨a1, a2, a3, a4, a5, a6, a7, a8⟩ := f1
  obtain ⟨b1, b2, b3, b4, b5, b6, b7, b8⟩ := f2
  refine ⟨fun i => ?_, fun i j => ?_, ?_, b3.trans a3, b4.trans a4, b5.trans a5, b6.trans a6, b7.trans a7, b8.trans a8⟩
  · show (if i = g then _ else ((st.forgets g (s + 1) (List.range (A.deg g))).floods g skip s (lsaV a s n) (List.range (A.deg g))).rows i) = _
    rw [b1, a1]
  · show ((st.forgets g (s + 1) (List.range (A.deg g))).floods g skip s (lsaV a s n) (List.range (A.deg g))).owed i j = _
    rw [floods_owed _ _ _ _ _ _ List.nodup_range, forgets_owed _ _ _ _ List.nodup_range]
    simp only [List.mem_range]
    by_cases h1 : i = g
    · subst h1
      by_cases h2 : j < A.deg i
      · by_cases h3 : skip = some j
        · simp [h2, h3]
        · simp [h2, h3]
      · simp [h2]
    · simp [h1]
  · show ((st.forgets g (s + 1) (List.range (A.deg g))).floods g skip s (lsaV a s n) (List.range (A.deg g))).wire ++ _ = _
    rw [b2, a2]
theorem older_small {a d : Int} (h : a + d ≤ 3600) : older a d = a + d := by unfold older; rw [if_neg (by omega)]
/-- a row taken at g -/
theorem Inv.take {A : Lay X} {st st1 st' : St} {hv : Nat → Nat → Int} {ov : Nat → Nat → Nat → Int} {B a n : Int} {g s : Nat} {skip : Option Nat} (h : Inv A st hv ov B) (hr : st1.rows = st.rows) (hw : st1.wire = st.wire) (ho : st1.owed = st.owed) (hn : st1.now = st.now)
    (T : TakeIs st1 st' A g skip s a n) (hg : g < 3) (hs : s < 2) (ha : 0 ≤ a) (haB : a ≤ B) (hB : B ≤ 100) (hup : hv g s < n) (htop : ∀ i, i < 3 → ∀ s', s' < 2 → setV hv g s n i s' ≤ st1.toldN s') (hown : ∀ s', s' < 2 → setV hv g s n s' s' = st1.toldN s')
    (hsk : ∀ j, skip = some j → j < A.deg g → n ≤ hv (A.way g j) s) :
    Inv A st' (setV hv g s n) (setO ov g s fun j => if skip = some j then 0 else n) (B + 1) ∧ (∀ i, i < 3 → ∀ s', s' < 2 → hv i s' ≤ setV hv g s n i s') ∧ ∀ came, Step A hv (setV hv g s n) ov (setO ov g s fun j => if skip = some j then 0 else n) came := by
  have hn1 : 1 ≤ n := by have := h.hv0 hg hs; omega
  have hle : ∀ i, i < 3 → ∀ s', s' < 2 → hv i s' ≤ setV hv g s n i s' := fun i hi s' hs' => by
    unfold setV
    split
    · rename_i q; obtain ⟨rfl, rfl⟩ := q; omega
    · omega
  refine ⟨⟨fun i hi s' hs' => ?_, fun i hi j hj s' hs' => ?_, fun i => ?_, fun i j => ?_, fun i hi s' hs' => ?_, fun s' hs' => ?_, fun i hi j hj s' hs' => ?_, fun m hm => ?_⟩, hle, fun came => ⟨hle, fun i hi j hj s' hs' h1 h2 h3 => ?_⟩⟩
  · rw [T.rows, T.now, hr, hn]
    by_cases hig : i = g
    · subst hig
      rw [if_pos rfl, look_store]
      by_cases hss : s = s'
      · subst hss
        rw [if_pos rfl]
        exact .inr ⟨a, st.now, by simp [setV], by simp [setV]; omega, ha, Int.le_refl _, by omega⟩
      · rw [if_neg (fun q => hss (key_inj.mp q))]
        have : setV hv i s n i s' = hv i s' := by simp [setV, Ne.symm hss]
        rw [this]
        exact (h.row i hi s' hs').imp id fun ⟨b, t, h1, h2, h3, h4, h5⟩ => ⟨b, t, h1, h2, h3, h4, by omega⟩
    · rw [if_neg hig]
      have : setV hv g s n i s' = hv i s' := by simp [setV, hig]
      rw [this]
      exact (h.row i hi s' hs').imp id fun ⟨b, t, h1, h2, h3, h4, h5⟩ => ⟨b, t, h1, h2, h3, h4, by omega⟩
  · rw [T.owed, ho]
    by_cases hig : i = g
    · subst hig
      rw [if_pos ⟨rfl, hj⟩]
      have hnd := (h.ok i j).nd
      by_cases hss : s = s'
      · subst hss
        have e1 : setO ov i s (fun j => if skip = some j then 0 else n) i j s = if skip = some j then 0 else n := by simp [setO]
        rw [e1]
        by_cases hq : skip = some j
        · rw [if_pos hq, if_pos hq, look_drop _ _ _ hnd, if_pos rfl]; exact .inl ⟨rfl, rfl⟩
        · rw [if_neg hq, if_neg hq, look_store, if_pos rfl]
          exact .inr ⟨a, rfl, by simp [setV], hn1, ha, by omega⟩
      · have e1 : setO ov i s (fun j => if skip = some j then 0 else n) i j s' = ov i j s' := by simp [setO, Ne.symm hss]
        have e2 : setV hv i s n i s' = hv i s' := by simp [setV, Ne.symm hss]
        rw [e1, e2]
        have e3 : lookA (if skip = some j then dropA (st.owed i j) [1, 7, (s : Int) + 1] else storeA (dropA (st.owed i j) [1, 7, (s : Int) + 1]) [1, 7, (s : Int) + 1] (lsaV a s n)) [1, 7, (s' : Int) + 1] = lookA (st.owed i j) [1, 7, (s' : Int) + 1] := by
          split
          · rw [look_drop _ _ _ hnd, if_neg (fun q => hss (key_inj.mp q))]
          · rw [look_store, if_neg (fun q => hss (key_inj.mp q)), look_drop _ _ _ hnd, if_neg (fun q => hss (key_inj.mp q))]
        rw [e3]
        exact (h.owed i hi j hj s' hs').imp id fun ⟨b, h1, h2, h3, h4, h5⟩ => ⟨b, h1, h2, h3, h4, by omega⟩
    · rw [if_neg (fun q => hig q.1)]
      have e1 : setO ov g s (fun j => if skip = some j then 0 else n) i j s' = ov i j s' := by simp [setO, hig]
      have e2 : setV hv g s n i s' = hv i s' := by simp [setV, hig]
      rw [e1, e2]
      exact (h.owed i hi j hj s' hs').imp id fun ⟨b, h1, h2, h3, h4, h5⟩ => ⟨b, h1, h2, h3, h4, by omega⟩
  · rw [T.rows, hr]
    split
    · exact (h.rk g).store (key_spot hs) _
    · exact h.rk i
  · rw [T.owed, ho]
    split
    · split
      · exact (h.ok i j).drop _
      · exact ((h.ok i j).drop _).store (key_spot hs) _
    · exact h.ok i j
  · have e : st'.toldN s' = st1.toldN s' := by unfold St.toldN; rw [T.t0, T.t1]
    rw [e]; exact htop i hi s' hs'
  · have e : st'.toldN s' = st1.toldN s' := by unfold St.toldN; rw [T.t0, T.t1]
    rw [e]; exact hown s' hs'
  · intro hlt
    by_cases hig : i = g ∧ s' = s
    · obtain ⟨rfl, rfl⟩ := hig
      have e1 : setO ov i s' (fun j => if skip = some j then 0 else n) i j s' = if skip = some j then 0 else n := by simp [setO]
      rw [e1]
      have e2 : setV hv i s' n i s' = n := by simp [setV]
      have e3 : setV hv i s' n (A.way i j) s' = hv (A.way i j) s' := by simp [setV, A.way_ne hi hj]
      rw [e2, e3] at hlt
      by_cases hq : skip = some j
      · have := hsk j hq hj; omega
      · rw [if_neg hq]; omega
    · have e1 : setO ov g s (fun j => if skip = some j then 0 else n) i j s' = ov i j s' := by simp [setO, hig]
      have e2 : setV hv g s n i s' = hv i s' := by simp [setV, hig]
      rw [e1]
      rw [e2] at hlt
      exact h.lag i hi j hj s' hs' (Int.lt_of_le_of_lt (hle _ (A.hway i hi j hj) s' hs') hlt)
  · rw [T.wire, hw] at hm
    rcases List.mem_append.mp hm with hm | hm
    · exact (h.wire m hm).mono (by omega) hle
    · obtain ⟨j, hj, rfl⟩ := List.mem_map.mp hm
      have hj' := List.mem_range.mp (List.mem_filter.mp hj).1
      rw [older_small (by omega)]
      exact msg_row A hg hj' hs (by omega) (by omega) hn1 (by simp [setV])
  · have hv' : ov i j s' = hv i s' ∧ 1 ≤ ov i j s' := by
      rcases h.ov_le hi hj hs' with q | q
      · omega
      · exact q
    by_cases hig : i = g ∧ s' = s
    · obtain ⟨rfl, rfl⟩ := hig
      have e2 : setV hv i s' n i s' = n := by simp [setV]
      omega
    · have e1 : setO ov g s (fun j => if skip = some j then 0 else n) i j s' = ov i j s' := by simp [setO, hig]
      omega
end

-- TPl3
section
variable {w : World} {X : Cx PW w} {A : Lay X}

theorem Inv.move {st st' : St} {hv : Nat → Nat → Int} {ov : Nat → Nat → Nat → Int} {B B' : Int} (h : Inv A st hv ov B) (hr : st'.rows = st.rows) (ho : st'.owed = st.owed) (hn : st'.now = st.now) (h0 : st'.t0 = st.t0) (h1 : st'.t1 = st.t1) (hB : B ≤ B')
    (hw : ∀ m ∈ st'.wire, MsgOK A hv B' m) : Inv A st' hv ov B' where
  row := fun i hi s hs => by
    rw [hr, hn]
    exact (h.row i hi s hs).imp id fun ⟨b, t, h1, h2, h3, h4, h5⟩ => ⟨b, t, h1, h2, h3, h4, by omega⟩
  owed := fun i hi j hj s hs => by
    rw [ho]
    exact (h.owed i hi j hj s hs).imp id fun ⟨b, h1, h2, h3, h4, h5⟩ => ⟨b, h1, h2, h3, h4, by omega⟩
  rk := fun i => by rw [hr]; exact h.rk i
  ok := fun i j => by rw [ho]; exact h.ok i j
  top := fun i hi s hs => by
    have e : st'.toldN s = st.toldN s := by unfold St.toldN; rw [h0, h1]
    rw [e]; exact h.top i hi s hs
  own := fun s hs => by
    have e : st'.toldN s = st.toldN s := by unfold St.toldN; rw [h0, h1]
    rw [e]; exact h.own s hs
  lag := h.lag
  wire := hw
noncomputable def setD (ov : Nat → Nat → Nat → Int) (g j s : Nat) : Nat → Nat → Nat → Int := fun i j' s' => if i = g ∧ j' = j ∧ s' = s then 0 else ov i j' s'
theorem Inv.drop {st : St} {hv : Nat → Nat → Int} {ov : Nat → Nat → Nat → Int} {B : Int} (h : Inv A st hv ov B) {g j s : Nat} (hg : g < 3) (hj : j < A.deg g) (hs : s < 2) (hle : hv g s ≤ hv (A.way g j) s) :
    Inv A (st.setOwed g j (dropA (st.owed g j) [1, 7, (s : Int) + 1])) hv (setD ov g j s) B where
  row := h.row
  owed := fun i hi j' hj' s' hs' => by
    by_cases hq : i = g ∧ j' = j
    · obtain ⟨rfl, rfl⟩ := hq
      have e : (st.setOwed i j' (dropA (st.owed i j') [1, 7, (s : Int) + 1])).owed i j' = dropA (st.owed i j') [1, 7, (s : Int) + 1] := by simp [St.setOwed]
      rw [e, look_drop _ _ _ (h.ok i j').nd]
      by_cases hss : s = s'
      · subst hss; rw [if_pos rfl]; exact .inl ⟨rfl, by simp [setD]⟩
      · rw [if_neg (fun q => hss (key_inj.mp q))]
        have e2 : setD ov i j' s i j' s' = ov i j' s' := by simp [setD, Ne.symm hss]
        rw [e2]; exact h.owed i hi j' hj' s' hs'
    · have e : (st.setOwed g j (dropA (st.owed g j) [1, 7, (s : Int) + 1])).owed i j' = st.owed i j' := by simp only [St.setOwed]; rw [if_neg hq]
      have e2 : setD ov g j s i j' s' = ov i j' s' := by simp only [setD]; rw [if_neg fun q => hq ⟨q.1, q.2.1⟩]
      rw [e, e2]; exact h.owed i hi j' hj' s' hs'
  rk := h.rk
  ok := fun i j' => by
    by_cases hq : i = g ∧ j' = j
    · obtain ⟨rfl, rfl⟩ := hq
      have e : (st.setOwed i j' (dropA (st.owed i j') [1, 7, (s : Int) + 1])).owed i j' = dropA (st.owed i j') [1, 7, (s : Int) + 1] := by simp [St.setOwed]
      rw [e]; exact (h.ok i j').drop _
    · have e : (st.setOwed g j (dropA (st.owed g j) [1, 7, (s : Int) + 1])).owed i j' = st.owed i j' := by simp only [St.setOwed]; rw [if_neg hq]
      rw [e]; exact h.ok i j'
  top := h.top
  own := h.own
  lag := fun i hi j' hj' s' hs' hlt => by
    by_cases hq : i = g ∧ j' = j ∧ s' = s
    · obtain ⟨rfl, rfl, rfl⟩ := hq; omega
    · have e2 : setD ov g j s i j' s' = ov i j' s' := by simp only [setD]; rw [if_neg hq]
      rw [e2]; exact h.lag i hi j' hj' s' hs' hlt
  wire := h.wire
theorem Step.drop {st : St} {hv : Nat → Nat → Int} {ov : Nat → Nat → Nat → Int} {B : Int} (h : Inv A st hv ov B) {g j s : Nat} (hg : g < 3) (hj : j < A.deg g) (hs : s < 2) {came : AV} (hc : came = .tup [.int g, .int (A.way g j), key3 ((s : Int) + 1), .int (hv g s)]) :
    Step A hv hv ov (setD ov g j s) came where
  up := fun _ _ _ _ => Int.le_refl _
  gone := fun i hi j' hj' s' hs' h1 h2 h3 => by
    by_cases hq : i = g ∧ j' = j ∧ s' = s
    · obtain ⟨rfl, rfl, rfl⟩ := hq
      rw [hc, h3]
    · have e2 : setD ov g j s i j' s' = ov i j' s' := by simp only [setD]; rw [if_neg hq]
      omega
theorem Step.same (hv : Nat → Nat → Int) (ov : Nat → Nat → Nat → Int) (came : AV) : Step A hv hv ov ov came := ⟨fun _ _ _ _ => Int.le_refl _, fun _ _ _ _ _ _ h1 h2 => by omega⟩

theorem newer_gt {a n o k : Int} (h : k < n) : newer a n 3 o k 3 = 1 := by
  unfold newer
  have : (n != k) = true := by simp; omega
  rw [if_pos this, if_pos (decide_eq_true h)]
theorem newer_lt {a n o k : Int} (h : n < k) : newer a n 3 o k 3 = -1 := by
  unfold newer
  have : (n != k) = true := by simp; omega
  rw [if_pos this, if_neg (by simp; omega)]
theorem newer_eq {a n o : Int} (h0 : 0 ≤ a) (h1 : a ≤ 100) (h2 : 0 ≤ o) (h3 : o ≤ 100) : newer a n 3 o n 3 = 0 := by
  unfold newer
  have z1 : decide (3600 ≤ a) = false := decide_eq_false (by omega)
  have z2 : decide (3600 ≤ o) = false := decide_eq_false (by omega)
  have z3 : decide (900 < if a - o < 0 then -(a - o) else a - o) = false := decide_eq_false (by split <;> omega)
  rw [if_neg (by simp), if_neg (by decide), z1, z2, if_neg (by decide), z3, if_neg (by decide)]
noncomputable def CameOK (c : AV) : Prop := c = .none ∨ ∃ g k l n : Int, c = .tup [.int g, .int k, key3 l, .int n]
structure Res (A : Lay X) (st : St) (hv : Nat → Nat → Int) (ov : Nat → Nat → Nat → Int) (B : Int) (H' : HM) : Prop where
  ex : ∃ st' hv' ov', H' = A.H st' ∧ Inv A st' hv' ov' (B + 1) ∧ Step A hv hv' ov ov' st'.came ∧ CameOK st'.came ∧ st'.wire.length ≤ st.wire.length + 4 ∧ st'.bl = st.bl ∧ st'.bk = st.bk ∧ (∀ s, s < 2 → st.toldN s ≤ st'.toldN s ∧ st'.toldN s ≤ 3)
theorem mem_popped {st : St} {last : Bool} {q : Nat} {m : AV} (h : m ∈ (st.popped last q).wire) : m ∈ st.wire := by
  unfold St.popped at h
  split at h
  · exact List.mem_of_mem_eraseIdx h
  · exact h
end

-- TPl4
section
variable {w : World} {X : Cx PW w} {A : Lay X}

theorem take_res {st st1 : St} {hv : Nat → Nat → Int} {ov : Nat → Nat → Nat → Int} {B a n : Int} {g j s : Nat} (h : Inv A st1 hv ov B) (hwl : st1.wire.length ≤ st.wire.length) (hbl : st1.bl = st.bl) (hbk : st1.bk = st.bk) (hto : ∀ s, st1.toldN s = st.toldN s) (hB : B ≤ 90)
    (hg : g < 3) (hj : j < A.deg g) (hs : s < 2) (ha : 0 ≤ a) (haB : a ≤ B) (hup : hv g s < n) (hle : n ≤ hv (A.way g j) s) (hc : CameOK st1.came) (h3 : ∀ s, s < 2 → st.toldN s ≤ 3) :
    Res A st hv ov B (A.H ((st1.take A g (some j) s a n).ack A g j (headV a s n))) := by
  have T := take_is st1 A g (some j) s a n
  generalize st1.take A g (some j) s a n = st2 at T ⊢
  have hnt : n ≤ st1.toldN s := Int.le_trans hle (h.top _ (A.hway g hg j hj) s hs)
  have hne : g ≠ s := fun e => by subst e; have := h.own g hs; omega
  obtain ⟨I, hup', S⟩ := h.take (st1 := st1) rfl rfl rfl rfl T hg hs ha haB (by omega) hup (fun i hi s' hs' => by
      unfold setV
      split
      · rename_i q; rw [q.2]; exact hnt
      · exact h.top i hi s' hs') (fun s' hs' => by
      unfold setV
      split
      · rename_i q; obtain ⟨q1, q2⟩ := q; omega
      · exact h.own s' hs') (fun j' hj' _ => by cases hj'; exact hle)
  have hfl : ((List.range (A.deg g)).filter fun j' => decide (some j ≠ some j')).length ≤ 2 := by
    refine Nat.le_trans (List.length_filter_le _ _) ?_
    rw [List.length_range]
    rcases A.hdeg g hg with e | e <;> omega
  refine ⟨st2.ack A g j (headV a s n), _, _, rfl, I.move rfl rfl rfl rfl rfl (Int.le_refl _) fun m hm => ?_, S _, ?_, ?_, T.bl.trans hbl, T.bk.trans hbk, fun s' hs' => ?_⟩
  · rcases List.mem_append.mp hm with hm | hm
    · exact I.wire m hm
    · rw [List.mem_singleton.mp hm]
      have := h.hv0 hg hs
      exact msg_ack A hg hj hs ha (by omega) (by omega) (by simp [setV])
  · show CameOK st2.came
    rw [T.came]; exact hc
  · show (st2.wire ++ _).length ≤ _
    rw [T.wire]; simp only [List.length_append, List.length_map, List.length_singleton]; omega
  · have e : (st2.ack A g j (headV a s n)).toldN s' = st1.toldN s' := by
      show st2.toldN s' = _
      unfold St.toldN; rw [T.t0, T.t1]
    rw [e, hto]; exact ⟨Int.le_refl _, h3 s' hs'⟩
theorem same_res {st st1 : St} {hv : Nat → Nat → Int} {ov : Nat → Nat → Nat → Int} {B : Int} (h : Inv A st1 hv ov B) (hwl : st1.wire.length ≤ st.wire.length + 4) (hbl : st1.bl = st.bl) (hbk : st1.bk = st.bk) (hto : ∀ s, st1.toldN s = st.toldN s) (hc : CameOK st1.came) (h3 : ∀ s, s < 2 → st.toldN s ≤ 3) :
    Res A st hv ov B (A.H st1) :=
  ⟨st1, hv, ov, rfl, h.move rfl rfl rfl rfl rfl (by omega) fun m hm => (h.wire m hm).mono (by omega) fun _ _ _ _ => Int.le_refl _, .same .., hc, hwl, hbl, hbk, fun s hs => by rw [hto]; exact ⟨Int.le_refl _, h3 s hs⟩⟩
theorem drop_res {st st1 : St} {hv : Nat → Nat → Int} {ov : Nat → Nat → Nat → Int} {B : Int} {g j s : Nat} (h : Inv A st1 hv ov B) (hwl : st1.wire.length ≤ st.wire.length + 4) (hbl : st1.bl = st.bl) (hbk : st1.bk = st.bk) (hto : ∀ s, st1.toldN s = st.toldN s) (h3 : ∀ s, s < 2 → st.toldN s ≤ 3)
    (hg : g < 3) (hj : j < A.deg g) (hs : s < 2) (hle : hv g s ≤ hv (A.way g j) s) (hc : st1.came = .tup [.int g, .int (A.way g j), key3 ((s : Int) + 1), .int (hv g s)]) (more : List AV) (hm : ∀ m ∈ more, MsgOK A hv B m) (hl : more.length + st1.wire.length ≤ st.wire.length + 4) :
    Res A st hv ov B (A.H { st1.setOwed g j (dropA (st1.owed g j) [1, 7, (s : Int) + 1]) with wire := st1.wire ++ more }) := by
  have I := h.drop hg hj hs hle
  refine ⟨_, hv, setD ov g j s, rfl, I.move rfl rfl rfl rfl rfl (by omega) fun m hm' => ?_, Step.drop h hg hj hs hc, ?_, ?_, hbl, hbk, fun s' hs' => ?_⟩
  · rcases List.mem_append.mp hm' with q | q
    · exact (h.wire m q).mono (by omega) fun _ _ _ _ => Int.le_refl _
    · exact (hm m q).mono (by omega) fun _ _ _ _ => Int.le_refl _
  · show CameOK st1.came
    rw [hc]; exact .inr ⟨_, _, _, _, rfl⟩
  · show (st1.wire ++ more).length ≤ _
    rw [List.length_append]; omega
  · have e : St.toldN { st1.setOwed g j (dropA (st1.owed g j) [1, 7, (s : Int) + 1]) with wire := st1.wire ++ more } s' = st1.toldN s' := rfl
    rw [e, hto]; exact ⟨Int.le_refl _, h3 s' hs'⟩
theorem noted_inv {st : St} {hv : Nat → Nat → Int} {ov : Nat → Nat → Nat → Int} {B : Int} (h : Inv A st hv ov B) (last : Bool) (q g j s : Nat) (n : Int) : Inv A ((st.popped last q).noted A g j s n) hv ov B := by
  obtain ⟨k1, k2, k3, k4, k5, k6⟩ := popped_keep st last q
  exact h.move k1 k2 k3 k4 k5 (Int.le_refl _) fun m hm => h.wire m (mem_popped hm)
theorem noted_bl (st : St) (last : Bool) (q g j s : Nat) (n : Int) : ((st.popped last q).noted A g j s n).bl = st.bl ∧ ((st.popped last q).noted A g j s n).bk = st.bk := by
  unfold St.noted St.popped
  split <;> exact ⟨rfl, rfl⟩

theorem come_row (hK : IsK X) {st : St} {hv : Nat → Nat → Int} {ov : Nat → Nat → Nat → Int} {B a n : Int} {last : Bool} {g j s q : Nat} (h : Inv A st hv ov B) (hB : B ≤ 90) (hwl : st.wire.length ≤ 70000) (h3 : ∀ s, s < 2 → st.toldN s ≤ 3)
    (hg : g < 3) (hj : j < A.deg g) (hs : s < 2) (ha : 0 ≤ a) (haB : a ≤ B) (hn : 1 ≤ n) (hle : n ≤ hv (A.way g j) s) (hq : st.wire[q]? = some (.tup [.int g, .int (A.way g j), .str "row", lsaV a s n])) :
    CL X 160 (.ref 329) [.ref (A.addr sNet), .int q, .bool last] (A.H st) fun _ H' => Res A st hv ov B H' := by
  have I1 := noted_inv h last q g j s n
  obtain ⟨k1, k2, k3, k4, k5, k6⟩ := popped_keep st last q
  obtain ⟨b1, b2⟩ := noted_bl (A := A) st last q g j s n
  have hto : ∀ s', ((st.popped last q).noted A g j s n).toldN s' = st.toldN s' := fun s' => by
    show St.toldN (st.popped last q) s' = _
    unfold St.toldN; rw [k4, k5]
  have hcame : ((st.popped last q).noted A g j s n).came = .tup [.int g, .int (A.way g j), key3 ((s : Int) + 1), .int n] := rfl
  have hw1 : ((st.popped last q).noted A g j s n).wire.length ≤ st.wire.length := k6
  suffices hres : ∃ (tag : Vd) (ow : Bool) (here ownV : AV) (o k : Int), (ow = (lookA (((st.popped last q).noted A g j s n).owed g j) [1, 7, (s : Int) + 1]).isSome) ∧
      ((here = .none ∧ ownV = .none ∧ lookA (((st.popped last q).noted A g j s n).rows g) [1, 7, (s : Int) + 1] = none) ∨ ∃ t b, here = lsaV o s k ∧ ownV = .tup [headV o s k, .int t] ∧ lookA (((st.popped last q).noted A g j s n).rows g) [1, 7, (s : Int) + 1] = some (.tup [lsaV b s k, .int t]) ∧ o = older b (((st.popped last q).noted A g j s n).now - t)) ∧
      (∀ fd H, At X H fd (factsD ow) → PC X 30 (.ref 200) [headV a s n, ownV, .int ((st.popped last q).noted A g j s n).now, .ref fd] H (tag.v ow)) ∧ (tag = .back → here = lsaV o s k) ∧
      Res A st hv ov B (A.H (((st.popped last q).noted A g j s n).came1 A g j a s n ow o k tag)) by
    obtain ⟨tag, ow, here, ownV, o, k, e1, e2, e3, e4, e5⟩ := hres
    have hc := c_came hK (tag := tag) hg hj e1 (fun a b => by have := (I1.ok a b).len; omega) (by have := (I1.rk g).len; omega) (by omega) e2 e3 e4
    exact (c_come_row hK hg hj hq (by omega) hc).mono fun b H' e => by rw [e]; exact e5
  have hcok : CameOK ((st.popped last q).noted A g j s n).came := .inr ⟨_, _, _, _, rfl⟩
  generalize (st.popped last q).noted A g j s n = st1 at I1 b1 b2 hto hcame hw1 hcok ⊢
  have h0 := I1.hv0 hg hs
  rcases I1.row g hg s hs with ⟨r1, r2⟩ | ⟨b, t, r1, r2, r3, r4, r5⟩
  · exact ⟨.take, _, .none, .none, 0, 0, rfl, .inl ⟨rfl, rfl, r1⟩, fun fd H hf => c_verdict0 hK hf (by omega), (fun e => by cases e), take_res I1 hw1 b1 b2 hto hB hg hj hs ha haB (by omega) hle hcok h3⟩
  · have ho : older b (st1.now - t) = b + (st1.now - t) := older_small (by omega)
    have hverd : ∀ (ow : Bool) fd H, At X H fd (factsD ow) → PC X 30 (.ref 200) [headV a s n, .tup [headV (b + (st1.now - t)) s (hv g s), .int t], .int st1.now, .ref fd] H (verdictV (newer a n 3 (b + (st1.now - t)) (hv g s) 3) ow (decide (st1.now - t < 1))) := fun ow fd H hf => c_verdict1 hK hf (by omega)
    have hhere : ((lsaV (b + (st1.now - t)) s (hv g s) : AV) = .none ∧ (.tup [headV (b + (st1.now - t)) s (hv g s), .int t] : AV) = .none ∧ lookA (st1.rows g) [1, 7, (s : Int) + 1] = none) ∨ ∃ t' b', lsaV (b + (st1.now - t)) s (hv g s) = lsaV (b + (st1.now - t)) s (hv g s) ∧ (.tup [headV (b + (st1.now - t)) s (hv g s), .int t] : AV) = .tup [headV (b + (st1.now - t)) s (hv g s), .int t'] ∧ lookA (st1.rows g) [1, 7, (s : Int) + 1] = some (.tup [lsaV b' s (hv g s), .int t']) ∧ b + (st1.now - t) = older b' (st1.now - t') :=
      .inr ⟨t, b, rfl, rfl, r1, ho.symm⟩
    rcases Int.lt_trichotomy (hv g s) n with hlt | heq | hgt
    · by_cases hf : st1.now - t < 1
      · refine ⟨.early, _, _, _, _, _, rfl, hhere, fun fd H hf' => ?_, (fun e => by cases e), ?_⟩
        · have := hverd _ fd H hf'
          rw [newer_gt hlt, decide_eq_true hf] at this
          exact this
        · exact (show Res A st hv ov B (A.H st1) from same_res I1 (by omega) b1 b2 hto hcok h3)
      · refine ⟨.take, _, _, _, _, _, rfl, hhere, fun fd H hf' => ?_, (fun e => by cases e), take_res I1 hw1 b1 b2 hto hB hg hj hs ha haB hlt hle hcok h3⟩
        have := hverd _ fd H hf'
        rw [newer_gt hlt, decide_eq_false hf] at this
        exact this
    · refine ⟨.same, _, _, _, _, _, rfl, hhere, fun fd H hf' => ?_, (fun e => by cases e), ?_⟩
      · have := hverd _ fd H hf'
        rw [heq, newer_eq ha (by omega) (by omega) (by omega)] at this
        rw [heq]
        exact this
      · have hc2 : st1.came = .tup [.int g, .int (A.way g j), key3 ((s : Int) + 1), .int (hv g s)] := by rw [heq]; exact hcame
        have hle2 : hv g s ≤ hv (A.way g j) s := by omega
        cases hq2 : (lookA (st1.owed g j) [1, 7, (s : Int) + 1]).isSome with
        | true =>
          have := drop_res I1 (st := st) (by omega) b1 b2 hto h3 hg hj hs hle2 hc2 [] (fun _ h => nomatch h) (by simp; omega)
          simpa [St.came1, St.setOwed] using this
        | false =>
          have := drop_res I1 (st := st) (by omega) b1 b2 hto h3 hg hj hs hle2 hc2 [.tup [.int (A.way g j), .int g, .str "ack", headV a s n]] (fun m hm => by
            rw [List.mem_singleton.mp hm]
            exact msg_ack A hg hj hs ha haB hn (by omega)) (by simp; omega)
          simpa [St.came1, St.setOwed, St.ack] using this
    · refine ⟨.back, _, _, _, _, _, rfl, hhere, fun fd H hf' => ?_, (fun _ => rfl), ?_⟩
      · have := hverd _ fd H hf'
        rw [newer_lt hgt] at this
        exact this
      · show Res A st hv ov B (A.H (st1.sends A g (lsaV (older (b + (st1.now - t)) 1) s (hv g s)) [j]))
        rw [older_small (by omega)]
        refine ⟨st1.sends A g (lsaV (b + (st1.now - t) + 1) s (hv g s)) [j], hv, ov, rfl, I1.move rfl rfl rfl rfl rfl (by omega) fun m hm => ?_, .same .., hcok, ?_, b1, b2, fun s' hs' => ?_⟩
        · rcases List.mem_append.mp hm with hm | hm
          · exact (I1.wire m hm).mono (by omega) fun _ _ _ _ => Int.le_refl _
          · rw [List.mem_singleton.mp hm]
            exact msg_row A hg hj hs (by omega) (by omega) (by omega) (Int.le_refl _)
        · show (st1.wire ++ _).length ≤ _
          simp; omega
        · have e : St.toldN (st1.sends A g (lsaV (b + (st1.now - t) + 1) s (hv g s)) [j]) s' = st1.toldN s' := rfl
          rw [e, hto]; exact ⟨Int.le_refl _, h3 s' hs'⟩
theorem come_ack (hK : IsK X) {st : St} {hv : Nat → Nat → Int} {ov : Nat → Nat → Nat → Int} {B a n : Int} {last : Bool} {g j s q : Nat} (h : Inv A st hv ov B) (hB : B ≤ 90) (hwl : st.wire.length ≤ 70000) (h3 : ∀ s, s < 2 → st.toldN s ≤ 3)
    (hg : g < 3) (hj : j < A.deg g) (hs : s < 2) (ha : 0 ≤ a) (haB : a ≤ B) (hn : 1 ≤ n) (hle : n ≤ hv (A.way g j) s) (hq : st.wire[q]? = some (.tup [.int g, .int (A.way g j), .str "ack", headV a s n])) :
    CL X 160 (.ref 329) [.ref (A.addr sNet), .int q, .bool last] (A.H st) fun _ H' => Res A st hv ov B H' := by
  have I1 := noted_inv h last q g j s n
  obtain ⟨k1, k2, k3, k4, k5, k6⟩ := popped_keep st last q
  obtain ⟨b1, b2⟩ := noted_bl (A := A) st last q g j s n
  have hto : ∀ s', ((st.popped last q).noted A g j s n).toldN s' = st.toldN s' := fun s' => by
    show St.toldN (st.popped last q) s' = _
    unfold St.toldN; rw [k4, k5]
  have hcame : ((st.popped last q).noted A g j s n).came = .tup [.int g, .int (A.way g j), key3 ((s : Int) + 1), .int n] := rfl
  have hw1 : ((st.popped last q).noted A g j s n).wire.length ≤ st.wire.length := k6
  suffices hres : ∃ H3, CL X 50 (.ref 256) [.ref (A.md g j), headV a s n] (A.H ((st.popped last q).noted A g j s n)) (fun _ H' => H' = H3) ∧ Res A st hv ov B H3 by
    obtain ⟨H3, e1, e2⟩ := hres
    exact (c_come_ack hK hg hj hq (by omega) e1).mono fun b H' e => by rw [e]; exact e2
  have hcok : CameOK ((st.popped last q).noted A g j s n).came := .inr ⟨_, _, _, _, rfl⟩
  generalize (st.popped last q).noted A g j s n = st1 at I1 b1 b2 hto hcame hw1 hcok ⊢
  have hmd : At X (A.H st1) (A.md g j) (mateD (A.way g j + 1) (A.rq g j) (A.addr (sOwed g j))) := .inr (A.hmd g hg j hj)
  have hod := A.Howed st1 hg hj
  rcases I1.owed g hg j hj s hs with ⟨r1, r2⟩ | ⟨b, r1, r2, r3, r4, r5⟩
  · exact ⟨_, c_settled0 hK hmd hod r1, same_res I1 (by omega) b1 b2 hto hcok h3⟩
  · refine ⟨_, c_settled1 hK hmd hod r1 (by have := (I1.ok g j).len; omega), ?_⟩
    rw [A.putOwed st1 hg hj]
    by_cases heq : n = ov g j s
    · rw [heq, newer_eq ha (by omega) r4 (by omega), if_pos rfl]
      have hc2 : st1.came = .tup [.int g, .int (A.way g j), key3 ((s : Int) + 1), .int (hv g s)] := by rw [hcame, heq, r2]
      have := drop_res I1 (st := st) (by omega) b1 b2 hto h3 hg hj hs (by omega) hc2 [] (fun _ h => nomatch h) (by simp; omega)
      simpa [St.setOwed] using this
    · have hne : newer a n 3 b (ov g j s) 3 ≠ 0 := by
        rcases Int.lt_or_gt_of_ne heq with q | q
        · rw [newer_lt q]; decide
        · rw [newer_gt q]; decide
      rw [if_neg hne]
      exact same_res I1 (by omega) b1 b2 hto hcok h3
end

-- TPl5
section
variable {w : World} {X : Cx PW w} {A : Lay X}

/-- a row told by its own router -/
theorem told_res {st : St} {hv : Nat → Nat → Int} {ov : Nat → Nat → Nat → Int} {B : Int} {p : Nat} (h : Inv A st hv ov B) (hp : p < 2) (hB0 : 0 ≤ B) (hB : B ≤ 90) (h3 : ∀ s, s < 2 → st.toldN s ≤ 3) (hlt : st.toldN p < 3) (hc : CameOK st.came) :
    Res A st hv ov B (A.H ((st.bump p).take A p none p 0 (st.toldN p + 1))) := by
  obtain ⟨k1, k2, k3, k4⟩ := bump_keep st p
  have kc : (st.bump p).came = st.came ∧ (st.bump p).bl = st.bl ∧ (st.bump p).bk = st.bk := by unfold St.bump; split <;> exact ⟨rfl, rfl, rfl⟩
  have kt : ∀ s, s < 2 → (st.bump p).toldN s = if s = p then st.toldN p + 1 else st.toldN s := fun s hs => by
    have h1 : p = 0 ∨ p = 1 := by first | exact lt2 (by assumption) | omega
    have h2 : s = 0 ∨ s = 1 := by first | exact lt2 (by assumption) | omega
    rcases h1 with rfl | rfl <;> rcases h2 with rfl | rfl <;> rfl
  have T := take_is (st.bump p) A p none p 0 (st.toldN p + 1)
  generalize (st.bump p).take A p none p 0 (st.toldN p + 1) = st2 at T ⊢
  have hg : p < 3 := by omega
  have hown := h.own p hp
  obtain ⟨I, hup', S⟩ := h.take (st1 := st.bump p) k1 k2 k4 k3 T hg hp (Int.le_refl _) hB0 (by omega) (by omega) (fun i hi s' hs' => by
      rw [kt s' hs']
      unfold setV
      split
      · rename_i q; rw [if_pos q.2]; exact Int.le_refl _
      · have := h.top i hi s' hs'
        split
        · rename_i q; rw [q] at this ⊢; omega
        · exact this) (fun s' hs' => by
      rw [kt s' hs']
      unfold setV
      split
      · rename_i q; rw [if_pos q.2]
      · rename_i q
        have : s' ≠ p := fun e => q ⟨e, e⟩
        rw [if_neg this]
        exact h.own s' hs') (fun j' hj' => by cases hj')
  have hfl : ((List.range (A.deg p)).filter fun j' => decide ((none : Option Nat) ≠ some j')).length ≤ 2 := by
    refine Nat.le_trans (List.length_filter_le _ _) ?_
    rw [List.length_range]
    rcases A.hdeg p hg with e | e <;> omega
  refine ⟨st2, _, _, rfl, I, S _, by rw [T.came, kc.1]; exact hc, ?_, T.bl.trans kc.2.1, T.bk.trans kc.2.2, fun s' hs' => ?_⟩
  · rw [T.wire, k2]; simp only [List.length_append, List.length_map]; omega
  · have e : st2.toldN s' = (st.bump p).toldN s' := by unfold St.toldN; rw [T.t0, T.t1]
    rw [e, kt s' hs']
    split
    · rename_i q; subst q; omega
    · exact ⟨Int.le_refl _, h3 s' hs'⟩
theorem told_row {st : St} {hv : Nat → Nat → Int} {ov : Nat → Nat → Nat → Int} {B : Int} {p : Nat} (h : Inv A st hv ov B) (hp : p < 2) : lookA (st.rows p) [1, 7, (p : Int) + 1] = none ∨ ∃ b k t, lookA (st.rows p) [1, 7, (p : Int) + 1] = some (.tup [lsaV b p k, .int t]) := by
  rcases h.row p (by omega) p hp with ⟨e, _⟩ | ⟨b, t, e, _⟩
  · exact .inl e
  · exact .inr ⟨b, _, t, e⟩
theorem told_cl (hK : IsK X) {st : St} {hv : Nat → Nat → Int} {ov : Nat → Nat → Nat → Int} {B : Int} {p : Nat} (h : Inv A st hv ov B) (hp : p < 2) (hB0 : 0 ≤ B) (hB : B ≤ 90) (h3 : ∀ s, s < 2 → st.toldN s ≤ 3) (hlt : st.toldN p < 3) (hc : CameOK st.came) (hwl : st.wire.length ≤ 70000) :
    CL X 100 (.ref 315) [.ref (A.addr sNet), .int p] (A.H st) fun _ H' => Res A st hv ov B H' := by
  have hz : ∀ a b, (st.owed a b).length ≤ 800 := fun a b => by have := (h.ok a b).len; omega
  have hr : (st.rows p).length ≤ 900 := by have := (h.rk p).len; omega
  have hl := told_row h hp
  have R := told_res h hp hB0 hB h3 hlt hc
  have h1 : p = 0 ∨ p = 1 := by first | exact lt2 (by assumption) | omega
  rcases h1 with rfl | rfl
  · exact (c_told0 hK hz hr hl (by omega)).mono fun b H' e => by rw [e]; exact R
  · exact (c_told1 hK hz hr hl (by omega)).mono fun b H' e => by rw [e]; exact R
theorem res_quiet {st : St} {hv : Nat → Nat → Int} {ov : Nat → Nat → Nat → Int} {B : Int} {H' : HM} (h : Res A st.quietNet hv ov B H') : Res A st hv ov B H' := ⟨h.ex⟩
theorem owed_keys {st : St} {hv : Nat → Nat → Int} {ov : Nat → Nat → Nat → Int} {B : Int} (h : Inv A st hv ov B) (i j : Nat) : ∃ ls : List Int, (st.owed i j).map (·.1) = ls.map (fun l => [1, 7, l]) ∧ ls.length ≤ 2 ∧ ∀ l ∈ ls, l = 1 ∨ l = 2 := by
  have hk := h.ok i j
  have hl := hk.len
  have hs := hk.sub
  have hn : ((st.owed i j).map (·.1)).length ≤ 2 := by simpa using hl
  generalize (st.owed i j).map (·.1) = l at hs hn
  have : ∃ ls : List Int, l = ls.map (fun l => [1, 7, l]) ∧ ∀ x ∈ ls, x = 1 ∨ x = 2 := by
    clear hn hl hk
    induction l with
    | nil => exact ⟨[], rfl, fun _ h => nomatch h⟩
    | cons k l ih =>
      obtain ⟨ls, e, hh⟩ := ih fun k hk => hs k (.tail _ hk)
      rcases hs k (.head _) with rfl | rfl
      · exact ⟨1 :: ls, by rw [e]; rfl, fun x hx => by rcases List.mem_cons.mp hx with rfl | hx; exact .inl rfl; exact hh x hx⟩
      · exact ⟨2 :: ls, by rw [e]; rfl, fun x hx => by rcases List.mem_cons.mp hx with rfl | hx; exact .inr rfl; exact hh x hx⟩
  obtain ⟨ls, e, hh⟩ := this
  exact ⟨ls, e, by rw [e] at hn; simpa using hn, hh⟩
/-- what stands at a node of each row, as functions -/
theorem row_funs {st : St} {hv : Nat → Nat → Int} {ov : Nat → Nat → Nat → Int} {B : Int} (h : Inv A st hv ov B) {i : Nat} (hi : i < 3) : ∃ Bf Tf : Nat → Int, ∀ s : Nat, s < 2 → hv i s ≠ 0 → lookA (st.rows i) [1, 7, (s : Int) + 1] = some (.tup [lsaV (Bf s) s (hv i s), .int (Tf s)]) ∧ 1 ≤ hv i s ∧ 0 ≤ Bf s ∧ Tf s ≤ st.now ∧ Bf s + (st.now - Tf s) ≤ B := by
  have one : ∀ s : Nat, s < 2 → ∃ b t, hv i s ≠ 0 → lookA (st.rows i) [1, 7, (s : Int) + 1] = some (.tup [lsaV b s (hv i s), .int t]) ∧ 1 ≤ hv i s ∧ 0 ≤ b ∧ t ≤ st.now ∧ b + (st.now - t) ≤ B := fun s hs => by
    rcases h.row i hi s hs with ⟨_, e⟩ | ⟨b, t, e⟩
    · exact ⟨0, 0, fun q => absurd e q⟩
    · exact ⟨b, t, fun _ => e⟩
  obtain ⟨b0, t0, e0⟩ := one 0 (by decide)
  obtain ⟨b1, t1, e1⟩ := one 1 (by decide)
  refine ⟨fun s => if s = 0 then b0 else b1, fun s => if s = 0 then t0 else t1, fun s hs => ?_⟩
  have h2 : s = 0 ∨ s = 1 := by first | exact lt2 (by assumption) | omega
  rcases h2 with rfl | rfl
  · exact e0
  · exact e1
theorem deed (hK : IsK X) {st : St} {hv : Nat → Nat → Int} {ov : Nat → Nat → Nat → Int} {B form pick : Int} (h : Inv A st hv ov B) (hB0 : 0 ≤ B) (hB : B ≤ 90) (hwl : st.wire.length ≤ 60000) (h3 : ∀ s, s < 2 → st.toldN s ≤ 3) (hp : 0 ≤ pick) :
    CL X 200 (.ref 336) [.ref (A.addr sNet), .int form, .int pick] (A.H st) fun _ H' => Res A st hv ov B H' := by
  have I1 : Inv A st.quietNet hv ov B := h.move rfl rfl rfl rfl rfl (Int.le_refl _) h.wire
  obtain ⟨m1, m2⟩ := fmod_rng (a := pick) (m := 3) (by decide)
  obtain ⟨p1, p2⟩ := fmod_rng (a := pick) (m := 2) (by decide)
  obtain ⟨i, hi, hie⟩ : ∃ i : Nat, i < 3 ∧ pick.fmod 3 = i := ⟨(pick.fmod 3).toNat, by omega, by omega⟩
  obtain ⟨p, hp2, hpe⟩ : ∃ p : Nat, p < 2 ∧ pick.fmod 2 = p := ⟨(pick.fmod 2).toNat, by omega, by omega⟩
  have htv : [AV.int st.t0, AV.int st.t1][(pick.fmod 2).toNat]? = some (.int (st.toldN p)) := by
    rw [hpe]
    have h1 : p = 0 ∨ p = 1 := by first | exact lt2 (by assumption) | omega
    rcases h1 with rfl | rfl <;> rfl
  have hch : ∀ j, ∃ ls : List Int, (st.owed i j).map (·.1) = ls.map (fun l => [1, 7, l]) ∧ ls.length ≤ 2 ∧ ∀ l ∈ ls, l = 1 ∨ l = 2 := fun j => owed_keys h i j
  obtain ⟨ls, hls⟩ : ∃ ls : Nat → List Int, ∀ j, (st.owed i j).map (·.1) = (ls j).map (fun l => [1, 7, l]) ∧ (ls j).length ≤ 2 ∧ ∀ l ∈ ls j, l = 1 ∨ l = 2 := ⟨fun j => (hch j).choose, fun j => (hch j).choose_spec⟩
  obtain ⟨Bf, Tf, hrf⟩ := row_funs h hi
  have hrow : ∀ j, j < A.deg i → ∀ l ∈ ls j, ∃ s : Nat, s < 2 ∧ l = (s : Int) + 1 ∧ hv i s ≠ 0 := fun j hj l hl => by
    have hs : ∃ s : Nat, s < 2 ∧ l = (s : Int) + 1 := by
      rcases (hls j).2.2 l hl with rfl | rfl
      · exact ⟨0, by decide, rfl⟩
      · exact ⟨1, by decide, rfl⟩
    obtain ⟨s, hs, rfl⟩ := hs
    refine ⟨s, hs, rfl, fun e => ?_⟩
    have hmem : ([1, 7, (s : Int) + 1] : List Int) ∈ (st.owed i j).map (·.1) := by rw [(hls j).1]; exact List.mem_map.mpr ⟨_, hl, rfl⟩
    obtain ⟨v, ev⟩ := look_some_of _ _ hmem
    rcases h.owed i hi j hj s hs with ⟨e2, _⟩ | ⟨_, _, e2, e3, _⟩
    · rw [e2] at ev; cases ev
    · omega
  refine c_deed hK (i := i) (tv := st.toldN p) (R := fun H' => Res A st hv ov B H') (ls := ls) (B := fun _ l => Bf (l - 1).toNat) (P := fun _ l => l - 1) (N := fun _ l => hv i (l - 1).toNat) (T := fun _ l => Tf (l - 1).toNat) hi (by omega) hp hie htv
    ?_ (fun j hj => (hls j).1) (fun j hj => (hls j).2.1) (fun j hj l hl => ?_) ?_ ?_ ?_ ?_
  · intro hf ht
    rw [hpe]
    exact (told_cl hK I1 hp2 hB0 hB h3 ht (.inl rfl) (by show st.wire.length ≤ _; omega)).mono fun b H' e => res_quiet e
  · obtain ⟨s, hs, rfl, hne⟩ := hrow j hj l hl
    have := (hrf s hs hne).1
    rw [show ((s : Int) + 1 - 1).toNat = s by omega, show ((s : Int) + 1 - 1) = s by omega]
    exact this
  · intro _ msgs hm hlen
    refine ⟨{ st.quietNet with wire := st.wire ++ msgs }, hv, ov, rfl, h.move rfl rfl rfl rfl rfl (by omega) fun m hmm => ?_, .same .., .inl rfl, ?_, rfl, rfl, fun s hs => ⟨Int.le_refl _, h3 s hs⟩⟩
    · rcases List.mem_append.mp hmm with q | q
      · exact (h.wire m q).mono (by omega) fun _ _ _ _ => Int.le_refl _
      · obtain ⟨j, hj, l, hl, rfl⟩ := hm m q
        obtain ⟨s, hs, rfl, hne⟩ := hrow j hj l hl
        obtain ⟨q1, q2, q3, q4, q5⟩ := hrf s hs hne
        rw [show ((s : Int) + 1 - 1).toNat = s by omega, show ((s : Int) + 1 - 1) = s by omega, older_small (a := Bf s) (by omega), older_small (by omega)]
        exact msg_row A hi hj hs (by omega) (by omega) q2 (Int.le_refl _)
    · show (st.wire ++ msgs).length ≤ _
      rw [List.length_append]; omega
  · intro _ _
    refine ⟨{ st.quietNet with wire := st.wire.eraseIdx (pick.fmod st.wire.length).toNat }, hv, ov, rfl, h.move rfl rfl rfl rfl rfl (by omega) fun m hmm => ?_, .same .., .inl rfl, ?_, rfl, rfl, fun s hs => ⟨Int.le_refl _, h3 s hs⟩⟩
    · exact (h.wire m (List.mem_of_mem_eraseIdx hmm)).mono (by omega) fun _ _ _ _ => Int.le_refl _
    · show (st.wire.eraseIdx _).length ≤ _
      rw [List.length_eraseIdx]; split <;> omega
  · intro hne _ _ _
    have hpos : 0 < st.wire.length := List.length_pos_iff.mpr hne
    obtain ⟨q1, q2⟩ := fmod_rng (a := pick) (m := st.wire.length) (by omega)
    obtain ⟨q, hq, hqe⟩ : ∃ q : Nat, q < st.wire.length ∧ pick.fmod st.wire.length = q := ⟨(pick.fmod st.wire.length).toNat, by omega, by omega⟩
    rw [hqe]
    obtain ⟨g, j, s, a, n, e1, e2, e3, e4, e5, e6, e7, e8⟩ := (h.wire _ (List.getElem_mem hq)).ex
    have hget : st.quietNet.wire[q]? = some (st.wire[q]) := List.getElem?_eq_getElem hq
    rcases e8 with e8 | e8
    · rw [e8] at hget
      exact (come_row hK I1 hB (by show st.wire.length ≤ _; omega) h3 e1 e2 e3 e4 e5 e6 e7 hget).mono fun b H' e => res_quiet e
    · rw [e8] at hget
      exact (come_ack hK I1 hB (by show st.wire.length ≤ _; omega) h3 e1 e2 e3 e4 e5 e6 e7 hget).mono fun b H' e => res_quiet e
  · intro _
    exact res_quiet (same_res I1 (Nat.le_add_right _ _) rfl rfl (fun _ => rfl) (.inl rfl) h3)
end

-- TLw0
/-- more objects that stand -/
noncomputable def Cx.withS {prog : Program} {w : World} (X : Cx prog w) (S' : HM) : Cx prog w := { X with S := S' }
section
variable {w : World} {X : Cx PW w}
theorem IsK.withS (hK : IsK X) (S' : HM) : IsK (X.withS S') := ⟨hK.k, hK.bi⟩
/-- the objects of H that P names stand from here -/
structure Frz (X : Cx PW w) (H S' H' : HM) : Prop where
  le : ∀ a ao, X.S a = some ao → S' a = some ao
  src : ∀ a ao, S' a = some ao → X.S a = some ao ∨ (H a = some ao ∧ H' a = none)
  sub : ∀ a ao, H' a = some ao → H a = some ao
  all : ∀ a ao, H a = some ao → H' a = some ao ∨ S' a = some ao
theorem Good.frz {S' H H' : HM} {s : Shared} (F : Frz X H S' H') (G : Good PW w X.h₀ X.S H s) : Good PW w X.h₀ S' H' s where
  keep := G.keep
  st := fun a ao e => by
    rcases F.src a ao e with h | ⟨h, h'⟩
    · refine ⟨(G.st a ao h).1, ?_⟩
      cases q : H' a with
      | none => rfl
      | some z => have := (G.st a ao h).2; rw [F.sub a z q] at this; cases this
    · exact ⟨(G.ob a ao h).1, h'⟩
  ob := fun a ao e => G.ob a ao (F.sub a ao e)
  gens := G.gens
theorem Good.thaw {S' H H' H3 : HM} {s s' : Shared} (F : Frz X H S' H') (G : Good PW w X.h₀ X.S H s) (G' : Good PW w X.h₀ S' H3 s') (k : ∀ a ao, H3 a = some ao ∨ (H3 a = none ∧ H' a = none ∧ H a = some ao) ∨ True) :
    Good PW w X.h₀ X.S (fun a => match H3 a with | some o => some o | none => if H' a = none then H a else none) s' where
  keep := G'.keep
  st := fun a ao e => by
    refine ⟨(G'.st a ao (F.le a ao e)).1, ?_⟩
    have h1 := (G'.st a ao (F.le a ao e)).2
    have h2 := (G.st a ao e).2
    simp only [h1, h2]
    split <;> rfl
  ob := fun a ao e => by
    cases q : H3 a with
    | some z =>
      simp only [q] at e
      cases e
      exact G'.ob a _ q
    | none =>
      simp only [q] at e
      split at e
      · rename_i h'
        rcases F.all a ao e with h | h
        · rw [h'] at h; cases h
        · exact ⟨(G'.st a ao h).1, (G.ob a ao e).2⟩
      · cases e
  gens := G'.gens
noncomputable def thawed (H H' H3 : HM) : HM := fun a => match H3 a with | some o => some o | none => if H' a = none then H a else none
theorem Frz.none {S' H H' : HM} (F : Frz X H S' H') {a : Addr} (h : H a = none) : H' a = none := by
  cases q : H' a with
  | none => rfl
  | some z => rw [F.sub a z q] at h; cases h
theorem Ext.thaw {S' H H' H3 : HM} {s s' : Shared} (F : Frz X H S' H') (x : Ext H' s H3 s') : Ext H s (thawed H H' H3) s' where
  kept := fun b o e n => x.kept b o e (F.none n)
  tup := x.tup
  dom := fun a na nb => x.dom a (fun q => na (by unfold thawed; simp only [q, nb]; split <;> rfl)) (F.none nb)
  os := x.os
  there := x.there
section
variable {nm : Str} {sc : Scope} {L fa : Addr} {cd : Value} {n : Nat} {ρ : List (Str × AV)}
theorem GL.frz {S' H H' : HM} {s : Shared} (F : Frz X H S' H') (G : GL X L ρ H s) : GL (X.withS S') L ρ H' s := by
  have hS : S' L = none := by
    cases q : S' L with
    | none => rfl
    | some z =>
      rcases F.src L z q with h | ⟨h, _⟩
      · have := (G.good.st L z h).2; rw [HM.put_self] at this; cases this
      · rw [G.off] at h; cases h
  refine ⟨F.none G.off, G.good.keep, fun a ao e => ?_, fun a ao e => ?_, G.good.gens⟩
  · replace e : S' a = some ao := e
    have ne : a ≠ L := fun q => by rw [q, hS] at e; cases e
    rw [HM.put_ne _ _ ne]
    rcases F.src a ao e with h | ⟨h, h'⟩
    · refine ⟨(G.good.st a ao h).1, ?_⟩
      have := (G.good.st a ao h).2
      rw [HM.put_ne _ _ ne] at this
      exact F.none this
    · exact ⟨(G.good.ob a ao (by rw [HM.put_ne _ _ ne]; exact h)).1, h'⟩
  · by_cases ne : a = L
    · subst ne; rw [HM.put_self] at e; exact G.good.ob a ao (by rw [HM.put_self]; exact e)
    · rw [HM.put_ne _ _ ne] at e
      exact G.good.ob a ao (by rw [HM.put_ne _ _ ne]; exact F.sub a ao e)
theorem EXS.frz {S' H H' : HM} {st : List Stmt} {Q : AF → List (Str × AV) → HM → Prop} (F : Frz X H S' H') (h : (∀ a ao, H a = some ao → X.S a = none) → EXS (X.withS S') n nm sc L fa cd ρ H' st fun f ρ' H3 => Q f ρ' (thawed H H' H3)) : EXS X n nm sc L fa cd ρ H st Q := fun A s ok G =>
  wpAny_mono (h (fun a ao e => by
    cases q : X.S a with
    | none => rfl
    | some z =>
      have := (G.good.st a z q).2
      have ne : a ≠ L := fun q => by rw [q, G.off] at e; cases e
      rw [HM.put_ne _ _ ne, e] at this; cases this) A s ok (GL.frz (X := X) F G)) (fun f s' ⟨b, ρ', H3, i, g, x, q⟩ => by
    have hH : ∀ a, a ≠ L → (H.put L (.ns ρ)) a = H a := fun a ne => HM.put_ne _ _ ne
    have offH : H L = none := G.off
    have off3 : H3 L = none := g.off
    have offT : thawed H H' H3 L = none := by unfold thawed; simp only [off3, offH]; split <;> rfl
    have GG : Good PW w X.h₀ X.S (H.put L (.ns ρ)) s := G.good
    refine ⟨b, ρ', thawed H H' H3, i, ⟨offT, g.good.keep, fun a ao e => ?_, fun a ao e => ?_, g.good.gens⟩, ⟨fun c o ec nc => ?_, x.tup, fun a na nb => ?_, x.os, x.there⟩, q⟩
    · have h1 := g.good.st a ao (F.le a ao e)
      have h2 := (GG.st a ao e).2
      have ne : a ≠ L := fun q => by rw [q, HM.put_self] at h2; cases h2
      rw [HM.put_ne _ _ ne] at h2
      refine ⟨h1.1, ?_⟩
      have h3 := h1.2
      rw [HM.put_ne _ _ ne] at h3 ⊢
      unfold thawed
      simp only [h3, h2]
      split <;> rfl
    · by_cases ne : a = L
      · subst ne; rw [HM.put_self] at e; exact g.good.ob a ao (by rw [HM.put_self]; exact e)
      · rw [HM.put_ne _ _ ne] at e
        unfold thawed at e
        cases q3 : H3 a with
        | some z => simp only [q3] at e; cases e; exact g.good.ob a _ (by rw [HM.put_ne _ _ ne]; exact q3)
        | none =>
          simp only [q3] at e
          split at e
          · rename_i h'
            rcases F.all a ao e with h | h
            · rw [h'] at h; cases h
            · exact ⟨(g.good.st a ao h).1, (GG.ob a ao (by rw [HM.put_ne _ _ ne]; exact e)).2⟩
          · cases e
    · refine x.kept c o ec ?_
      by_cases ne : c = L
      · rw [ne, HM.put_self] at nc; cases nc
      · rw [HM.put_ne _ _ ne] at nc ⊢; exact F.none nc
    · by_cases ne : a = L
      · rw [ne, HM.put_self] at nb; cases nb
      · rw [HM.put_ne _ _ ne] at na nb
        refine x.dom a (fun z => na ?_) (by rw [HM.put_ne _ _ ne]; exact F.none nb)
        rw [HM.put_ne _ _ ne] at z
        unfold thawed
        simp only [z, nb]
        split <;> rfl) fun _ _ e => e
end
/-- the layout where more stands -/
noncomputable def Lay.lift (A : Lay X) {S' : HM} (k : ∀ a ao, X.S a = some ao → S' a = some ao) : Lay (X.withS S') where
  addr := A.addr
  slots := A.slots
  inj := A.inj
  deg := A.deg
  way := A.way
  nd := A.nd
  db := A.db
  fl := A.fl
  wl := A.wl
  fc := A.fc
  nl := A.nl
  md := A.md
  rq := A.rq
  nodes := A.nodes
  ring := A.ring
  edeg := A.edeg
  eway := A.eway
  hdeg := A.hdeg
  hway := A.hway
  hnodes := k _ _ A.hnodes
  hnd := fun i h => k _ _ (A.hnd i h)
  hdb := fun i h => let ⟨sl, dx, hh, t, kk, h1, h2⟩ := A.hdb i h; ⟨sl, dx, hh, t, kk, k _ _ h1, k _ _ h2⟩
  hfl := fun i h => k _ _ (A.hfl i h)
  hwl := fun i h => k _ _ (A.hwl i h)
  hfc := fun i h j h' => k _ _ (A.hfc i h j h')
  hnl := fun i h j h' => k _ _ (A.hnl i h j h')
  hmd := fun i h j h' => k _ _ (A.hmd i h j h')
  hsl := A.hsl
  inet := A.inet
  iwire := A.iwire
  itold := A.itold
  ibox := A.ibox
  irows := A.irows
  iowed := A.iowed
/-- some names' objects stand -/
noncomputable def frzS (X : Cx PW w) (H : HM) (P : Addr → Bool) : HM := fun a => match X.S a with | some o => some o | none => if P a then H a else none
noncomputable def frzH (H : HM) (P : Addr → Bool) : HM := fun a => if P a then none else H a
theorem frz_is {H : HM} (P : Addr → Bool) (hd : ∀ a ao, X.S a = some ao → H a = none) : Frz X H (frzS X H P) (frzH H P) where
  le := fun a ao e => by unfold frzS; simp only [e]
  src := fun a ao e => by
    unfold frzS at e
    cases q : X.S a with
    | some z => simp only [q] at e; exact .inl e
    | none =>
      simp only [q] at e
      split at e
      · rename_i h; exact .inr ⟨e, by unfold frzH; rw [if_pos h]⟩
      · cases e
  sub := fun a ao e => by
    unfold frzH at e
    split at e
    · cases e
    · exact e
  all := fun a ao e => by
    unfold frzH frzS
    cases q : P a with
    | false => left; simpa using e
    | true =>
      right
      cases q2 : X.S a with
      | some z => have := hd a z q2; rw [e] at this; cases this
      | none => simpa using e
section
variable {nm : Str} {sc : Scope} {L fa : Addr} {cd : Value} {n : Nat} {ρ : List (Str × AV)}
theorem EXS.frzP {H : HM} {st : List Stmt} {Q : AF → List (Str × AV) → HM → Prop} (P : Addr → Bool) (h : (∀ a ao, H a = some ao → X.S a = none) → EXS (X.withS (frzS X H P)) n nm sc L fa cd ρ (frzH H P) st fun f ρ' H3 => Q f ρ' (thawed H (frzH H P) H3)) : EXS X n nm sc L fa cd ρ H st Q := fun A s ok G =>
  EXS.frz (frz_is P fun a ao e => by
    have h2 := (G.good.st a ao e).2
    have ne : a ≠ L := fun q => by rw [q, HM.put_self] at h2; cases h2
    rw [HM.put_ne _ _ ne] at h2; exact h2) h A s ok G
end
theorem frz_S {H : HM} {P : Addr → Bool} {a : Addr} {ao : AO} (hn : X.S a = none) (hp : P a = true) (e : H a = some ao) : frzS X H P a = some ao := by
  unfold frzS; simp only [hn, hp, if_true]; exact e
theorem frz_le {H : HM} {P : Addr → Bool} : ∀ a ao, X.S a = some ao → frzS X H P a = some ao := fun a ao e => by unfold frzS; simp only [e]
end

-- TLw1
section
variable {w : World} {X : Cx PW w}

theorem map_range_getD {α β : Type} (d : α) (f : α → β) (l : List α) : (List.range l.length).map (fun j => f (l.getD j d)) = l.map f := by
  apply List.ext_getElem
  · simp
  · intro i h1 h2
    simp at h2
    simp [h2]
theorem inj_of_nodup {α β : Type} (f : α → β) : ∀ {l : List α}, (l.map f).Nodup → ∀ x ∈ l, ∀ y ∈ l, f x = f y → x = y
  | [], _, x, hx, _, _, _ => by cases hx
  | a :: l, h, x, hx, y, hy, e => by
    rw [List.map_cons, List.nodup_cons] at h
    rcases List.mem_cons.mp hx with rfl | hx'
    · rcases List.mem_cons.mp hy with rfl | hy'
      · rfl
      · exact absurd (List.mem_map.mpr ⟨y, hy', e.symm⟩) h.1
    · rcases List.mem_cons.mp hy with rfl | hy'
      · exact absurd (List.mem_map.mpr ⟨x, hx', e⟩) h.1
      · exact inj_of_nodup f h.2 x hx' y hy' e
noncomputable def nodeAt (Ns : List NodeR) (i : Nat) : NodeR := Ns.getD i ⟨0, 0, 0, 0, 0, []⟩
noncomputable def faceAt (Ns : List NodeR) (i j : Nat) : FaceR := (nodeAt Ns i).faces.getD j ⟨0, 0, 0, 0, 0, 0⟩
noncomputable def addrOf (net wire told box : Addr) (Ns : List NodeR) : Slot → Addr := fun σ => match σ.1 with
  | 0 => net
  | 1 => wire
  | 2 => told
  | 3 => box
  | 4 => (nodeAt Ns σ.2.1).rw
  | _ => (faceAt Ns σ.2.1 σ.2.2).ow
noncomputable def slotsOf (r : Bool) : List Slot := [sNet, sWire, sTold, sBox] ++ (List.range 3).flatMap fun i => sRows i :: (List.range (degOf r i)).map (sOwed i)
noncomputable def st0 (bl : Addr) (bk : Int) : St := { now := 100, wire := [], t0 := 0, t1 := 0, came := .none, bl := bl, bk := bk, rows := fun _ => [], owed := fun _ _ => [] }
theorem waysL_len (r : Bool) {i : Nat} (hi : i < 3) : (waysL r i).length = degOf r i := by
  have : i = 0 ∨ i = 1 ∨ i = 2 := by first | exact lt3 (by assumption) | omega
  rcases this with rfl | rfl | rfl <;> cases r <;> rfl
theorem degOf12 (r : Bool) (i : Nat) : degOf r i = 1 ∨ degOf r i = 2 := by unfold degOf; split <;> simp
theorem waysL_at (r : Bool) {i j : Nat} (hi : i < 3) (hj : j < degOf r i) : (waysL r i)[j]? = some (wayOf i j) := by
  have : i = 0 ∨ i = 1 ∨ i = 2 := by first | exact lt3 (by assumption) | omega
  have hj3 : j = 0 ∨ j = 1 := by have := degOf12 r i; omega
  rcases this with rfl | rfl | rfl <;> rcases hj3 with rfl | rfl <;> cases r <;> first | exact absurd hj (by decide) | rfl
theorem wayOf_lt3 {i j : Nat} (hi : i < 3) (hj : j < 2) : wayOf i j < 3 := by
  have : i = 0 ∨ i = 1 ∨ i = 2 := by first | exact lt3 (by assumption) | omega
  have hj3 : j = 0 ∨ j = 1 := by first | exact lt2 (by assumption) | omega
  rcases this with rfl | rfl | rfl <;> rcases hj3 with rfl | rfl <;> decide
theorem slots_cases {r : Bool} {σ : Slot} (hσ : σ ∈ slotsOf r) : σ = sNet ∨ σ = sWire ∨ σ = sTold ∨ σ = sBox ∨ (∃ i, i < 3 ∧ σ = sRows i) ∨ ∃ i j, i < 3 ∧ j < degOf r i ∧ σ = sOwed i j := by
  unfold slotsOf at hσ
  rcases List.mem_append.mp hσ with q | q
  · have : σ = sNet ∨ σ = sWire ∨ σ = sTold ∨ σ = sBox := by simpa using q
    rcases this with q | q | q | q
    · exact .inl q
    · exact .inr (.inl q)
    · exact .inr (.inr (.inl q))
    · exact .inr (.inr (.inr (.inl q)))
  · obtain ⟨i, hi, q⟩ := List.mem_flatMap.mp q
    refine .inr (.inr (.inr (.inr ?_)))
    rcases List.mem_cons.mp q with q | q
    · exact .inl ⟨i, List.mem_range.mp hi, q⟩
    · obtain ⟨j, hj, e⟩ := List.mem_map.mp q
      exact .inr ⟨i, j, List.mem_range.mp hi, List.mem_range.mp hj, e.symm⟩
theorem list3 {α : Type} {l : List α} {a b c : α} (hl : l.length = 3) (h0 : l[0]? = some a) (h1 : l[1]? = some b) (h2 : l[2]? = some c) : l = [a, b, c] := by
  match l, hl with
  | [x, y, z], _ => cases h0; cases h1; cases h2; rfl
theorem len_ne_lst {l : List AV} (h : l.length ≠ 0) : AO.lst l ≠ .lst [] := fun q => h (by cases q; rfl)
/-- what the inner heap holds at the nets' slots -/
structure LIn (H : HM) (r : Bool) (net wire nodes told box bl : Addr) (bk : Int) (Ns : List NodeR) : Prop where
  hnet : H net = some (netD wire nodes told)
  hwire : H wire = some (.lst [])
  htold : H told = some (.arr [.int 0, .int 0])
  hbox : H box = some (.arr [.ref bl, .int bk])
  hnodes : H nodes = some (.lst [.ref (nodeAt Ns 0).nd, .ref (nodeAt Ns 1).nd, .ref (nodeAt Ns 2).nd])
  hN : ∀ i, i < 3 → NodeOK H (nodeAt Ns i)
  hlen : ∀ i, i < 3 → (nodeAt Ns i).faces.length = degOf r i
  hF : ∀ i, i < 3 → ∀ j, j < degOf r i → FaceOK H j (faceAt Ns i j)
  hway : ∀ i, i < 3 → ∀ j, j < degOf r i → (faceAt Ns i j).way = wayOf i j
  tl : (slotsOf r).map (addrOf net wire told box Ns) = [net, wire, told, box] ++ Ns.flatMap NodeR.tds
  td : ∀ a ∈ Ns.flatMap NodeR.tds, H a = some (.td [])
  nd : (Ns.flatMap NodeR.tds).Nodup
theorem tl_of {r : Bool} {net wire told box : Addr} {Ns : List NodeR} (hNs : Ns = [nodeAt Ns 0, nodeAt Ns 1, nodeAt Ns 2]) (hlen : ∀ i, i < 3 → (nodeAt Ns i).faces.length = degOf r i) : (slotsOf r).map (addrOf net wire told box Ns) = [net, wire, told, box] ++ Ns.flatMap NodeR.tds := by
  have one : ∀ i, i < 3 → ((List.range (degOf r i)).map (sOwed i)).map (addrOf net wire told box Ns) = (nodeAt Ns i).faces.map FaceR.ow := fun i hi => by
    rw [List.map_map, ← hlen i hi]
    exact map_range_getD _ FaceR.ow (nodeAt Ns i).faces
  have z : (slotsOf r).map (addrOf net wire told box Ns) = [net, wire, told, box] ++ ((nodeAt Ns 0).tds ++ ((nodeAt Ns 1).tds ++ (nodeAt Ns 2).tds)) := by
    show [net, wire, told, box] ++ _ = _
    unfold NodeR.tds
    rw [← one 0 (by decide), ← one 1 (by decide), ← one 2 (by decide)]
    simp [List.range, List.range.loop, addrOf]
  rw [z]
  conv => rhs; rw [hNs]
  simp
theorem lin_of {H0 H : HM} {r : Bool} {net wire nodes told box bl : Addr} {bk : Int} {ρ : List (Str × AV)} (h : OI H0 r net wire nodes told [] ρ H) (hbox : H box = some (.arr [.ref bl, .int bk])) : ∃ Ns, LIn H r net wire nodes told box bl bk Ns := by
  obtain ⟨Ns, e1, hnodes, hok, hdeg, hnd⟩ := h.ex
  have hl : Ns.length = 3 := by simpa using congrArg List.length e1
  have hat : ∀ i, i < 3 → Ns[i]? = some (nodeAt Ns i) := fun i hi => by
    unfold nodeAt
    rw [List.getD_eq_getElem?_getD, List.getElem?_eq_getElem (by omega)]; rfl
  have hN : ∀ i, i < 3 → NodeOK H (nodeAt Ns i) := fun i hi => (hok _ (List.mem_of_getElem? (hat i hi))).1
  have hways : ∀ i, i < 3 → (nodeAt Ns i).faces.map FaceR.way = waysL r i := fun i hi => hdeg i _ (hat i hi)
  have hlen : ∀ i, i < 3 → (nodeAt Ns i).faces.length = degOf r i := fun i hi => by
    rw [← waysL_len r hi, ← hways i hi, List.length_map]
  have hfat : ∀ i, i < 3 → ∀ j, j < degOf r i → (nodeAt Ns i).faces[j]? = some (faceAt Ns i j) := fun i hi j hj => by
    unfold faceAt
    rw [List.getD_eq_getElem?_getD, List.getElem?_eq_getElem (by rw [hlen i hi]; exact hj)]; rfl
  have hNs := list3 hl (hat 0 (by decide)) (hat 1 (by decide)) (hat 2 (by decide))
  refine ⟨Ns, h.hnet, h.hwire, h.htold, hbox, ?_, hN, hlen, fun i hi j hj => (hN i hi).fc j _ (hfat i hi j hj), fun i hi j hj => ?_, tl_of hNs hlen, fun a ha => ?_, hnd⟩
  · rw [hnodes]
    conv => lhs; rw [hNs]
    rfl
  · have e2 := congrArg (fun l => l[j]?) (hways i hi)
    simp only [List.getElem?_map, hfat i hi j hj, Option.map_some, waysL_at r hi hj] at e2
    exact Option.some.inj e2
  · obtain ⟨N, hN', ha⟩ := List.mem_flatMap.mp ha
    exact tds_at (hok N hN').1 ha
theorem LIn.nodup {H : HM} {r : Bool} {net wire nodes told box bl : Addr} {bk : Int} {Ns : List NodeR} (h : LIn H r net wire nodes told box bl bk Ns) : ((slotsOf r).map (addrOf net wire told box Ns)).Nodup := by
  rw [h.tl, List.nodup_append]
  refine ⟨?_, h.nd, fun a ha b hb => ?_⟩
  · have q1 := HM.ne2 h.hnet h.hwire nofun
    have q2 := HM.ne2 h.hnet h.htold nofun
    have q3 := HM.ne2 h.hnet h.hbox nofun
    have q4 := HM.ne2 h.hwire h.htold nofun
    have q5 := HM.ne2 h.hwire h.hbox nofun
    have q6 := HM.ne2 h.htold h.hbox (by simp)
    simp [q1, q2, q3, q4, q5, q6]
  · have hb := h.td b hb
    have ha' : a = net ∨ a = wire ∨ a = told ∨ a = box := by simpa using ha
    rcases ha' with q | q | q | q <;> rw [q]
    · exact HM.ne2 h.hnet hb nofun
    · exact HM.ne2 h.hwire hb nofun
    · exact HM.ne2 h.htold hb nofun
    · exact HM.ne2 h.hbox hb nofun
theorem LIn.cont {H : HM} {r : Bool} {net wire nodes told box bl : Addr} {bk : Int} {Ns : List NodeR} (h : LIn H r net wire nodes told box bl bk Ns) {a : Addr} (ha : a ∈ (slotsOf r).map (addrOf net wire told box Ns)) : H a = some (netD wire nodes told) ∨ H a = some (.lst []) ∨ (∃ xs, H a = some (.arr xs)) ∨ H a = some (.td []) := by
  rw [h.tl] at ha
  rcases List.mem_append.mp ha with ha | ha
  · have ha' : a = net ∨ a = wire ∨ a = told ∨ a = box := by simpa using ha
    rcases ha' with q | q | q | q <;> rw [q]
    · exact .inl h.hnet
    · exact .inr (.inl h.hwire)
    · exact .inr (.inr (.inl ⟨_, h.htold⟩))
    · exact .inr (.inr (.inl ⟨_, h.hbox⟩))
  · exact .inr (.inr (.inr (h.td a ha)))
/-- every slot of the net but its turning ones -/
noncomputable def offP (as : List Addr) : Addr → Bool := fun a => !(decide (a ∈ as))
theorem LIn.fll {H : HM} {r : Bool} {net wire nodes told box bl : Addr} {bk : Int} {Ns : List NodeR} (h : LIn H r net wire nodes told box bl bk Ns) (i : Nat) (hi : i < 3) : H (nodeAt Ns i).fl = some (.lst ((List.range (degOf r i)).map fun j => AV.ref (faceAt Ns i j).fc)) := by
  rw [← h.hlen i hi, (h.hN i hi).fl]
  exact congrArg (fun l => some (AO.lst l)) (map_range_getD _ (fun f : FaceR => AV.ref f.fc) (nodeAt Ns i).faces).symm
theorem LIn.wll {H : HM} {r : Bool} {net wire nodes told box bl : Addr} {bk : Int} {Ns : List NodeR} (h : LIn H r net wire nodes told box bl bk Ns) (i : Nat) (hi : i < 3) : H (nodeAt Ns i).wl = some (.lst ((List.range (degOf r i)).map fun j => AV.int (wayOf i j))) := by
  rw [(h.hN i hi).wl, ← map_range_getD (⟨0, 0, 0, 0, 0, 0⟩ : FaceR) (fun f : FaceR => AV.int f.way) (nodeAt Ns i).faces, h.hlen i hi]
  refine congrArg (fun l => some (AO.lst l)) (List.map_congr_left fun j hj => ?_)
  rw [← h.hway i hi j (List.mem_range.mp hj)]; rfl
theorem range_ne {α : Type} {r : Bool} {i : Nat} {f : Nat → α} : ((List.range (degOf r i)).map f).length ≠ 0 := by
  rw [List.length_map, List.length_range]
  rcases degOf12 r i with q | q <;> rw [q] <;> decide
noncomputable def LIn.lay {H : HM} {r : Bool} {net wire nodes told box bl : Addr} {bk : Int} {Ns : List NodeR} (h : LIn H r net wire nodes told box bl bk Ns) {X : Cx PW w} (hS : ∀ a ao, H a = some ao → ao ≠ netD wire nodes told → ao ≠ .lst [] → (∀ xs, ao ≠ .arr xs) → ao ≠ .td [] → X.S a = some ao) : Lay X where
  addr := addrOf net wire told box Ns
  slots := slotsOf r
  inj := inj_of_nodup _ h.nodup
  deg := degOf r
  way := wayOf
  nd := fun i => (nodeAt Ns i).nd
  db := fun i => (nodeAt Ns i).db
  fl := fun i => (nodeAt Ns i).fl
  wl := fun i => (nodeAt Ns i).wl
  fc := fun i j => (faceAt Ns i j).fc
  nl := fun i j => (faceAt Ns i j).nl
  md := fun i j => (faceAt Ns i j).md
  rq := fun i j => (faceAt Ns i j).rq
  nodes := nodes
  ring := r
  edeg := fun _ _ => rfl
  eway := fun _ _ _ _ => rfl
  hdeg := fun i _ => degOf12 r i
  hway := fun i hi j hj => wayOf_lt3 hi (by have := degOf12 r i; omega)
  hnodes := hS _ _ h.hnodes nofun nofun (fun _ => nofun) nofun
  hnd := fun i hi => hS _ _ (h.hN i hi).nd (by simp) nofun (fun _ => nofun) nofun
  hdb := fun i hi => (h.hN i hi).db.imp fun sl => Exists.imp fun dx => Exists.imp fun hh => Exists.imp fun t => Exists.imp fun k q => ⟨hS _ _ q.1 nofun nofun (fun _ => nofun) nofun, hS _ _ q.2 nofun nofun (fun _ => nofun) nofun⟩
  hfl := fun i hi => hS _ _ (h.fll i hi) nofun (len_ne_lst range_ne) (fun _ => nofun) nofun
  hwl := fun i hi => hS _ _ (h.wll i hi) nofun (len_ne_lst range_ne) (fun _ => nofun) nofun
  hfc := fun i hi j hj => hS _ _ (h.hF i hi j hj).fc (by simp) nofun (fun _ => nofun) nofun
  hnl := fun i hi j hj => hS _ _ (h.hF i hi j hj).nl nofun (by simp) (fun _ => nofun) nofun
  hmd := fun i hi j hj => h.hway i hi j hj ▸ hS _ _ (h.hF i hi j hj).md (by simp) nofun (fun _ => nofun) nofun
  hsl := fun σ => slots_cases
  inet := by simp [slotsOf]
  iwire := by simp [slotsOf]
  itold := by simp [slotsOf]
  ibox := by simp [slotsOf]
  irows := fun i hi => List.mem_append_right _ (List.mem_flatMap.mpr ⟨i, List.mem_range.mpr hi, .head _⟩)
  iowed := fun i hi j hj => List.mem_append_right _ (List.mem_flatMap.mpr ⟨i, List.mem_range.mpr hi, .tail _ (List.mem_map.mpr ⟨j, List.mem_range.mpr hj, rfl⟩)⟩)
theorem LIn.back {H : HM} {r : Bool} {net wire nodes told box bl : Addr} {bk : Int} {Ns : List NodeR} (h : LIn H r net wire nodes told box bl bk Ns) {X : Cx PW w} (hS : ∀ a ao, H a = some ao → ao ≠ netD wire nodes told → ao ≠ .lst [] → (∀ xs, ao ≠ .arr xs) → ao ≠ .td [] → X.S a = some ao) : frzH H (offP ((slotsOf r).map (addrOf net wire told box Ns))) = (h.lay hS).H (st0 bl bk) := by
  funext b
  unfold frzH offP
  by_cases hb : b ∈ (slotsOf r).map (addrOf net wire told box Ns)
  · rw [if_neg (by simpa using hb)]
    obtain ⟨σ, hσ, e⟩ := List.mem_map.mp hb
    rw [← e]
    refine Eq.trans ?_ ((h.lay hS).at _ hσ).symm
    rcases slots_cases hσ with q | q | q | q | ⟨i, hi, q⟩ | ⟨i, j, hi, hj, q⟩ <;> rw [q]
    · exact h.hnet
    · exact h.hwire
    · exact h.htold
    · exact h.hbox
    · exact (h.hN i hi).rw
    · exact (h.hF i hi j hj).ow
  · rw [if_pos (by simpa using hb)]
    symm
    have z : ((slotsOf r).find? fun τ => addrOf net wire told box Ns τ = b) = none := List.find?_eq_none.mpr fun σ hσ q => hb (List.mem_map.mpr ⟨σ, hσ, of_decide_eq_true q⟩)
    exact congrArg (Option.map _) z
theorem LIn.frz {H : HM} {r : Bool} {net wire nodes told box bl : Addr} {bk : Int} {Ns : List NodeR} (h : LIn H r net wire nodes told box bl bk Ns) (hn : ∀ a ao, H a = some ao → X.S a = none) : ∀ a ao, H a = some ao → ao ≠ netD wire nodes told → ao ≠ .lst [] → (∀ xs, ao ≠ .arr xs) → ao ≠ .td [] → (X.withS (frzS X H (offP ((slotsOf r).map (addrOf net wire told box Ns))))).S a = some ao := fun a ao e n1 n2 n3 n4 => by
  refine frz_S (hn a ao e) ?_ e
  have : a ∉ (slotsOf r).map (addrOf net wire told box Ns) := fun q => by
    rcases h.cont q with z | z | ⟨xs, z⟩ | z
    · exact n1 (Option.some.inj (e.symm.trans z))
    · exact n2 (Option.some.inj (e.symm.trans z))
    · exact n3 _ (Option.some.inj (e.symm.trans z))
    · exact n4 (Option.some.inj (e.symm.trans z))
  unfold offP
  rw [decide_eq_false this]; rfl
theorem lay_of {H0 H : HM} {r : Bool} {net wire nodes told box bl : Addr} {bk : Int} {ρ : List (Str × AV)} (h : OI H0 r net wire nodes told [] ρ H) (hbox : H box = some (.arr [.ref bl, .int bk])) :
    ∃ P : Addr → Bool, ((∀ a ao, H a = some ao → X.S a = none) → ∃ A : Lay (X.withS (frzS X H P)), A.addr sNet = net ∧ A.addr sBox = box ∧ frzH H P = A.H (st0 bl bk)) := by
  obtain ⟨Ns, q⟩ := lin_of h hbox
  exact ⟨_, fun hn => ⟨q.lay (q.frz hn), rfl, rfl, q.back _⟩⟩
end

-- TLw2
section
variable {w : World} {X : Cx PW w}
section
variable {nm : Str} {sc : Scope} {L fa : Addr} {cd : Value} {n : Nat} {ρ : List (Str × AV)} {H : HM}
/-- a built-in type, called -/
theorem ev_tcallE {func : Expr} {args : List Expr} {pos : Pos} {T : String} {Q : AV → HM → Prop} (hf : PE X n nm sc L fa cd ρ H func (.ty T)) (ha : EVL X n nm sc L fa cd ρ H args fun as H' => CL X n (.type T) as H' Q)
    (hne : args ≠ []) (hstar : ∀ e r, args = e :: r → starEach (e :: r) (envOf nm sc L fa cd) = (false, eval e (envOf nm sc L fa cd)) :: starEach r (envOf nm sc L fa cd))
    (hplain : ∀ e r, args = e :: r → (backTo pos (starEach r (envOf nm sc L fa cd))).any (·.1) = false)
    (he : eval (.Call func args [] pos) (envOf nm sc L fa cd) = (do callWith pos (← eval func (envOf nm sc L fa cd)) [] (backTo pos (starEach args (envOf nm sc L fa cd))) (backToKw pos (keywordEach [] (envOf nm sc L fa cd))))) :
    EV X n nm sc L fa cd ρ H (.Call func args [] pos) Q := fun A s ok G =>
  Call_ (he := he) (stepP (hf A s ok G) fun v s1 i1 G1 x1 => by
    first | apply i1.ref_elim | apply i1.bool_elim | apply i1.ty_elim | apply i1.bi_elim | cases i1
    cases args with
    | nil => exact absurd rfl hne
    | cons e r =>
      refine callWith_type1 (he := hstar e r rfl) (hplain := hplain e r rfl) (step (ha A s1 pos ok G1) fun vs as ρ2 H2 s2 i2 G2 x2 pq0 => ?_)
      obtain ⟨e1, q⟩ := pq0
      subst e1
      exact leaf (x1.trans x2) (call_back q ok G2 i2))
/-- l[:b] of the script -/
theorem ev_arr_upto {value hi : Expr} {p pos : Pos} {b : Nat} {Q : AV → HM → Prop} (hv : EV X n nm sc L fa cd ρ H value fun a H' => ∃ d xs, a = .ref d ∧ At X H' d (.arr xs) ∧ xs.length ≤ 2000000 ∧ PE X n nm sc L fa cd ρ H' hi (.int b) ∧ ∀ c, H' c = none → Q (.ref c) (H'.put c (.lst (xs.take b))))
    (hs : ∀ o i, subscripted (.Slice none (some hi) none p) false o i = operate [i, o] (getItem o i) := by intros; rfl) : EV X n nm sc L fa cd ρ H (.Subscript value (.Slice none (some hi) none p) pos) Q := fun A s ok G =>
  Subscript_ (step (hv A s ok G) fun v _ _ _ s1 i1 G1 x1 ⟨e1, d, xs, e2, ha, hz, hhi, q⟩ => by
    subst e1 e2
    first | apply i1.ref_elim | apply i1.bool_elim | apply i1.ty_elim | apply i1.bi_elim | cases i1
    refine slice_sound ok G1 (.inl ⟨rfl, rfl⟩) (.inr ⟨_, rfl, hhi⟩) fun s2 lv uv j1 j2 G2 x2 => ?_
    cases j1
    obtain ⟨u, rfl⟩ := j2.int_inv
    have k1 : ∀ c o, s2.heap.get? c = some o → (s2.heap.push { cls := .type "slice", data := .fields #[.none, .int b u, .none] }).get? c = some o := fun b o e => Heap.get?_push_of_some _ e
    obtain ⟨items, hl0, l⟩ := G2.at ha
    have hl : Heap.IsList (s2.heap.push { cls := .type "slice", data := .fields #[.none, .int b u, .none] }) d items := hl0.at fun o e => k1 _ _ e
    have hlen : items.size = xs.length := by have := l.length; rwa [Array.length_toList] at this
    refine tail_any (s := { s2 with heap := s2.heap.push { cls := .type "slice", data := .fields #[.none, .int b u, .none] } }) hl.typeIs slot_list_getitem.lookup (wpAny_getItem_list_slice (lo := none) (hi := some b) (st := none) hl (Heap.IsSliceOf.new ..) .none (.int _ _) .none (by simp) ?_ (by rw [sizeLine_eq]; omega)) (hs _ _)
    have k2 : ∀ c o, (s2.heap.push { cls := .type "slice", data := .fields #[.none, .int b u, .none] }).get? c = some o → ((s2.heap.push { cls := .type "slice", data := .fields #[.none, .int b u, .none] }).push (lstObj (slicePick items none (some b) none) 0)).get? c = some o := fun b o e => Heap.get?_push_of_some _ e
    have hL : IsL ((s2.heap.push { cls := .type "slice", data := .fields #[.none, .int b u, .none] }).push (lstObj (slicePick items none (some b) none) 0)) (slicePick items none (some b) none).toList (xs.take b) := by
      have z := (l.grow fun c o e => k2 c o (k1 c o e)).take b
      have e : (slicePick items none (some b) none).toList = items.toList.take b := by rw [slicePick_upto']
      rw [e]; exact z
    obtain ⟨G3, x3⟩ := G2.grow (s' := { s2 with heap := s2.heap.push { cls := .type "slice", data := .fields #[.none, .int b u, .none] } }) k1 rfl rfl
    obtain ⟨G4, x4, off⟩ := G3.add (s' := { s2 with heap := (s2.heap.push { cls := .type "slice", data := .fields #[.none, .int b u, .none] }).push (lstObj (slicePick items none (some b) none) 0) }) (ao := .lst (xs.take b)) k2 (fresh_size _) ⟨_, _, Heap.get?_push_size _ rfl, hL⟩ rfl rfl
    exact leafP (((x1.trans x2).trans x3).trans x4) (here' (s := { s2 with heap := (s2.heap.push { cls := .type "slice", data := .fields #[.none, .int b u, .none] }).push (lstObj (slicePick items none (some b) none) 0) }) G4 (.ref _) ⟨rfl, q _ off⟩))
theorem cl_list {a : Addr} {xs : List AV} {Q : AV → HM → Prop} (h : At X H a (.lst xs)) (hz : xs.length ≤ 100000) (q : ∀ c, H c = none → Q (.ref c) (H.put c (.lst xs))) : CL X n (.type "list") [.ref a] H Q := fun A s vs ok G i => by
  obtain ⟨_, rfl, i1⟩ := i.one
  first | apply i1.ref_elim | apply i1.bool_elim | apply i1.ty_elim | apply i1.bi_elim | cases i1
  obtain ⟨items, k, e, l⟩ := Good.at G h
  have hsz : items.size ≤ sizeLine := by have := l.length; rw [Array.length_toList] at this; rw [sizeLine_eq]; omega
  refine call_list_seq (hsz := hsz) a (.inl rfl) e rfl rfl fun h' c' hk hD => ?_
  obtain ⟨g, x⟩ := G.add (s' := { s with heap := h' }) (a := s.heap.objs.size) (ao := .lst xs) hk (fresh_size _) ⟨items, c', hD, l.grow hk⟩ rfl rfl
  have off : H s.heap.objs.size = none := by
    cases r : H s.heap.objs.size with
    | none => rfl
    | some ao => obtain ⟨o, e', _⟩ := (G.ob _ _ r).1.there; rw [fresh_size] at e'; cases e'
  exact ⟨.ref s.heap.objs.size, _, .ref _, g, x, q _ off⟩
theorem ev_cm {l r : Expr} {op : CmpOp} {pos : Pos} {Q : AV → HM → Prop} (hl : EV X (n + 1) nm sc L fa cd ρ H l fun a H' => ∃ b c, PE X (n + 1) nm sc L fa cd ρ H' r b ∧ ACm X H' op a b c ∧ Q (.bool c) H') (hm : behindInMarks op r = false) :
    EV X (n + 1) nm sc L fa cd ρ H (.Compare l [op] [r] pos) Q := fun A s ok G =>
  wpAny_Compare1 (step (hl A s ok G) fun v a ρ1 H1 s1 i1 G1 x1 ⟨e1, b, c, hr, ho, q⟩ => by
    subst e1
    refine stepP (hr A s1 ok G1) fun u s2 i2 G2 x2 => ?_
    exact leaf (x1.trans x2) (wpAny_mono (acm_sound ho ok G2 (i1.mono x2.tup) i2) (fun _ _ p => p.mono fun b ρ' H' ⟨e1, e2, e3⟩ => ⟨e1, by subst e2 e3; exact q⟩) fun _ _ e => e)) hm
end
end

-- TLw3
section
variable {w : World} {X : Cx PW w}

theorem MsgOK.lift {A : Lay X} {S' : HM} (k : ∀ a ao, X.S a = some ao → S' a = some ao) {hv : Nat → Nat → Int} {B : Int} {m : AV} (h : MsgOK A hv B m) : MsgOK (A.lift k) hv B m := ⟨h.ex⟩
theorem MsgOK.low {A : Lay X} {S' : HM} (k : ∀ a ao, X.S a = some ao → S' a = some ao) {hv : Nat → Nat → Int} {B : Int} {m : AV} (h : MsgOK (A.lift k) hv B m) : MsgOK A hv B m := ⟨h.ex⟩
theorem Inv.lift {A : Lay X} {S' : HM} (k : ∀ a ao, X.S a = some ao → S' a = some ao) {st : St} {hv : Nat → Nat → Int} {ov : Nat → Nat → Nat → Int} {B : Int} (h : Inv A st hv ov B) : Inv (A.lift k) st hv ov B := ⟨h.row, h.owed, h.rk, h.ok, h.top, h.own, h.lag, fun m hm => (h.wire m hm).lift k⟩
theorem Inv.low {A : Lay X} {S' : HM} (k : ∀ a ao, X.S a = some ao → S' a = some ao) {st : St} {hv : Nat → Nat → Int} {ov : Nat → Nat → Nat → Int} {B : Int} (h : Inv (A.lift k) st hv ov B) : Inv A st hv ov B := ⟨h.row, h.owed, h.rk, h.ok, h.top, h.own, h.lag, fun m hm => (h.wire m hm).low k⟩
theorem Res.low {A : Lay X} {S' : HM} (k : ∀ a ao, X.S a = some ao → S' a = some ao) {st : St} {hv : Nat → Nat → Int} {ov : Nat → Nat → Nat → Int} {B : Int} {H' : HM} (h : Res (A.lift k) st hv ov B H') : Res A st hv ov B H' := by
  obtain ⟨st', hv', ov', e, i, s, r⟩ := h.ex
  exact ⟨st', hv', ov', e, i.low k, ⟨s.up, s.gone⟩, r⟩
/-- a call that knows the net alone, beside more objects -/
theorem CL.frame {A : Lay X} {st : St} {H : HM} {n : Nat} {f : Value} {args : List AV} {Q : AV → HM → Prop} (k : Le (A.H st) H)
    (h : ∀ S' (hS : ∀ a ao, X.S a = some ao → S' a = some ao), (∀ a ao, H a = some ao → A.H st a = none → S' a = some ao) → (∀ a ao, H a = some ao → (a == sysModules) = false) →
      CL (X.withS S') n f args (A.H st) fun b H3 => (∀ a ao, S' a = some ao → H3 a = none) → Q b (thawed H (A.H st) H3)) : CL X n f args H Q := fun B s vs ok G il => by
  have hd : ∀ a ao, X.S a = some ao → H a = none := fun a ao e => (G.st a ao e).2
  have hn : ∀ a ao, H a = some ao → X.S a = none := fun a ao e => by
    cases q : X.S a with
    | none => rfl
    | some z => have := hd a z q; rw [e] at this; cases this
  have hsys : ∀ a ao, H a = some ao → (a == sysModules) = false := fun a ao e => by
    obtain ⟨o, ho⟩ := X.sm
    have z := (G.ob a ao e).2
    cases q : a == sysModules with
    | false => rfl
    | true => rw [beq_iff_eq.mp q, ho] at z; cases z
  have F := frz_is (H := H) (fun a => (A.H st a).isNone) hd
  have hH : frzH H (fun a => (A.H st a).isNone) = A.H st := by
    funext a
    show (if (A.H st a).isNone = true then none else H a) = A.H st a
    cases q : A.H st a with
    | none => exact if_pos rfl
    | some z => exact (if_neg (fun e => by cases e)).trans (k a z q)
  rw [hH] at F
  have hc := h _ frz_le (fun a ao e e2 => frz_S (hn a ao e) (show (A.H st a).isNone = true by rw [e2]; rfl) e) hsys
  refine wpAny_mono (hc B s vs ok (Good.frz (X := X) F G) il) (fun v s' pq0 => ?_) fun _ _ e => e
  obtain ⟨b, H3, i, g, x, q⟩ := pq0
  exact ⟨b, _, i, Good.thaw (X := X) F G g (fun _ _ => .inr (.inr trivial)), x.thaw F, q fun a ao e => (g.st a ao e).2⟩
theorem thawed_old {H H' H3 : HM} {a : Addr} {ao : AO} (e : H a = some ao) (e1 : H' a = none) (e3 : H3 a = none) : thawed H H' H3 a = some ao := by
  unfold thawed; simp only [e3]; rw [if_pos e1]; exact e
theorem thawed_new {H H' H3 : HM} {a : Addr} {ao : AO} (e : H3 a = some ao) : thawed H H' H3 a = some ao := by unfold thawed; simp only [e]
theorem thawed_same {H H' : HM} (k : Le H' H) : thawed H H' H' = H := by
  funext a
  unfold thawed
  cases q : H' a with
  | none => simp
  | some z => exact (k a z q).symm
theorem Le.put2 {H H' : HM} (k : Le H H') (a : Addr) (o : AO) : Le (H.put a o) (H'.put a o) := fun b ao e => by
  by_cases q : b = a
  · subst q; rw [HM.put_self] at e ⊢; exact e
  · rw [HM.put_ne _ _ q] at e ⊢; exact k b ao e
/-- _law_state beside more -/
theorem f_state (hK : IsK X) {A : Lay X} {st : St} {H : HM} {hv : Nat → Nat → Int} {ov : Nat → Nat → Nat → Int} {B : Int} (k : Le (A.H st) H) (I : Inv A st hv ov B) :
    CL X 120 (.ref 343) [.ref (A.addr sNet)] H fun b H' => ∃ h o, b = .tup [.ref h, .ref o] ∧ A.H st h = none ∧ A.H st o = none ∧ h ≠ o ∧ H' h = some (.td (hL hv [0, 1, 2])) ∧ H' o = some (.td (oL A ov [0, 1, 2])) ∧ Le (A.H st) H' ∧ ∀ a ao, H a = some ao → A.H st a = none → H' a = some ao :=
  CL.frame k fun S' hS hfr hsys => by
    have hc := c_state (A := A.lift hS) (st := st) (hv := hv) (ov := ov) (hK.withS S') (fun i hi s hs => (I.row i hi s hs).imp id fun ⟨b, t, h1, _⟩ => ⟨b, t, h1⟩) (fun i hi j hj s hs => (I.owed i hi j hj s hs).imp id fun ⟨b, h1, _⟩ => ⟨b, h1⟩)
    refine hc.mono fun b H3 pq0 hfresh => ?_
    obtain ⟨h, o, e1, e2, e3, ne, e4⟩ := pq0
    subst e4
    have hh : (((A.H st).put h (.td (hL hv [0, 1, 2]))).put o (.td (oL A ov [0, 1, 2]))) h = some (.td (hL hv [0, 1, 2])) := by rw [HM.put_ne _ _ ne, HM.put_self]
    refine ⟨h, o, e1, e2, e3, ne, thawed_new hh, thawed_new (HM.put_self ..), fun a ao e => thawed_new ?_, fun a ao e e' => thawed_old e e' (hfresh a ao (hfr a ao e e'))⟩
    have q1 : a ≠ h := HM.ne e e2
    have q2 : a ≠ o := HM.ne e e3
    exact (HM.put_ne _ _ q2).trans ((HM.put_ne _ _ q1).trans e)
/-- _law_step_right beside more -/
theorem f_right (hK : IsK X) {A : Lay X} {st : St} {H : HM} {hv0 hv : Nat → Nat → Int} {ov0 ov : Nat → Nat → Nat → Int} {B : Int} {h0 o0 h1 o1 : Addr} (k : Le (A.H st) H) (I : Inv A st hv ov B) (S : Step A hv0 hv ov0 ov st.came) (C : CameOK st.came)
    (b0 : H h0 = some (.td (hL hv0 [0, 1, 2]))) (b1 : H o0 = some (.td (oL A ov0 [0, 1, 2]))) (a0 : H h1 = some (.td (hL hv [0, 1, 2]))) (a1 : H o1 = some (.td (oL A ov [0, 1, 2])))
    (n0 : A.H st h0 = none) (n1 : A.H st o0 = none) (n2 : A.H st h1 = none) (n3 : A.H st o1 = none) :
    PC X 60 (.ref 350) [.ref (A.addr sNet), .tup [.ref h0, .ref o0], .tup [.ref h1, .ref o1]] H (.bool true) :=
  CL.frame k fun S' hS hfr hsys => by
    have hc := c_right (A := A.lift hS) (hK.withS S') (h0 := h0) (o0 := o0) (h1 := h1) (o1 := o1) (hv0 := hv0) (hv := hv) (ov0 := ov0) (ov := ov) (came := st.came) (H := A.H st) (A.Hnet st) (A.Htold st)
      (.inr (hfr _ _ b0 n0)) (.inr (hfr _ _ b1 n1)) (hfr _ _ a0 n2) (hfr _ _ a1 n3) (hsys _ _ a0) (hsys _ _ a1) C
      (fun i hi s hs => ⟨S.up i hi s hs, I.top i hi s hs, fun e => by
        subst e
        have := I.own i hs
        unfold St.toldN at this
        omega⟩)
      (fun i hi j hj s hs => ⟨by
        rcases I.ov_le hi hj hs with q | q
        · exact .inl q
        · exact .inr q.1, fun ⟨q1, q2⟩ => I.lag i hi j hj s hs q1 q2, fun q1 q2 q3 => S.gone i hi j hj s hs q1 q2 q3⟩)
    refine hc.mono fun b H3 ⟨e1, e2⟩ _ => ⟨e1, ?_⟩
    subst e2
    exact thawed_same k
/-- _law_deed beside more -/
theorem f_deed (hK : IsK X) {A : Lay X} {st : St} {H : HM} {hv : Nat → Nat → Int} {ov : Nat → Nat → Nat → Int} {B form pick : Int} (k : Le (A.H st) H) (I : Inv A st hv ov B) (hB0 : 0 ≤ B) (hB : B ≤ 90) (hwl : st.wire.length ≤ 60000) (h3 : ∀ s, s < 2 → st.toldN s ≤ 3) (hp : 0 ≤ pick) :
    CL X 200 (.ref 336) [.ref (A.addr sNet), .int form, .int pick] H fun _ H' => ∃ H3, Res A st hv ov B H3 ∧ Le H3 H' ∧ ∀ a ao, H a = some ao → A.H st a = none → H' a = some ao :=
  CL.frame k fun S' hS hfr hsys => (deed (A := A.lift hS) (hK.withS S') (I.lift hS) hB0 hB hwl h3 hp).mono fun b H3 r hfresh => by
    refine ⟨H3, r.low hS, fun a ao e => thawed_new e, fun a ao e e' => thawed_old e e' (hfresh a ao (hfr a ao e e'))⟩
theorem f_told (hK : IsK X) {A : Lay X} {st : St} {H : HM} {hv : Nat → Nat → Int} {ov : Nat → Nat → Nat → Int} {B : Int} (k : Le (A.H st) H) (I : Inv A st hv ov B) (hB0 : 0 ≤ B) (hB : B ≤ 90) (hwl : st.wire.length ≤ 60000) (h3 : ∀ s, s < 2 → st.toldN s ≤ 3) (hlt : st.toldN 0 < 3) (hc : CameOK st.came) :
    CL X 100 (.ref 315) [.ref (A.addr sNet), .int 0] H fun _ H' => ∃ H3, Res A st hv ov B H3 ∧ Le H3 H' ∧ ∀ a ao, H a = some ao → A.H st a = none → H' a = some ao :=
  CL.frame k fun S' hS hfr hsys => (told_cl (A := A.lift hS) (p := 0) (hK.withS S') (I.lift hS) (by decide) hB0 hB h3 hlt hc (by omega)).mono fun b H3 r hfresh => by
    refine ⟨H3, r.low hS, fun a ao e => thawed_new e, fun a ao e e' => thawed_old e e' (hfresh a ao (hfr a ao e e'))⟩
theorem inv0 {A : Lay X} (bl : Addr) (bk : Int) : Inv A (st0 bl bk) (fun _ _ => 0) (fun _ _ _ => 0) 0 where
  row := fun i hi s hs => .inl ⟨rfl, rfl⟩
  owed := fun i hi j hj s hs => .inl ⟨rfl, rfl⟩
  rk := fun i => .nil
  ok := fun i j => .nil
  top := fun i hi s hs => by unfold St.toldN; split <;> exact Int.le_refl _
  own := fun s hs => by unfold St.toldN; split <;> rfl
  lag := fun i hi j hj s hs h => absurd h (Int.lt_irrefl _)
  wire := fun m hm => nomatch hm
end

-- TLw4
section
variable {w : World} {X : Cx PW w}
set_option maxHeartbeats 4000000

section
variable {nm : Str} {sc : Scope} {L fa : Addr} {cd : Value} {n : Nat} {ρ : List (Str × AV)}
theorem EXS.frzAny {H : HM} {st : List Stmt} {Q : AF → List (Str × AV) → HM → Prop} (Φ : Cx PW w → HM → Prop) (P : Addr → Bool) (hΦ : (∀ a ao, H a = some ao → X.S a = none) → Φ (X.withS (frzS X H P)) (frzH H P))
    (h : ∀ X2 H2, Φ X2 H2 → EXS X2 n nm sc L fa cd ρ H2 st fun f ρ' H3 => Q f ρ' (thawed H H2 H3)) : EXS X n nm sc L fa cd ρ H st Q := EXS.frzP P fun hn => h _ _ (hΦ hn)
end
structure LI (A : Lay X) (bl : Addr) (js : List Nat) (ρ : List (Str × AV)) (H : HM) : Prop where
  ex : ∃ st h o hv ov hv0 ov0, Le (A.H st) H ∧ H h = some (.td (hL hv0 [0, 1, 2])) ∧ H o = some (.td (oL A ov0 [0, 1, 2])) ∧ A.H st h = none ∧ A.H st o = none ∧ Inv A st hv ov (3 * (10 - (js.length : Int)) + 1) ∧ Step A hv0 hv ov0 ov st.came ∧ CameOK st.came ∧
    st.wire.length ≤ 4 * (10 - js.length) + 4 ∧ (∀ s, s < 2 → st.toldN s ≤ 3) ∧ st.bl = bl ∧ 0 ≤ st.bk ∧ st.bk ≤ 3 * (10 - (js.length : Int)) + 1 ∧ ρ.lookup (Str.ofString "state") = some (.tup [.ref h, .ref o])
  len : js.length ≤ 10
  net : ρ.lookup (Str.ofString "net") = some (.ref (A.addr sNet))
  box : ρ.lookup (Str.ofString "box") = some (.ref (A.addr sBox))
theorem store_now {a b c d e v : AV} : storeA ([("now", a), ("wire", b), ("nodes", c), ("told", d), ("came", e)] : List (Str × AV)) "now" v = ([("now", v), ("wire", b), ("nodes", c), ("told", d), ("came", e)] : List (Str × AV)) := by kernel_rfl
theorem c_law (hK : IsK X) {scr : Addr} {ns : List Int} {H : HM} (hs : X.S scr = some (.arr (ns.map .int))) (hz : ns.length ≤ 63) : CL X 400 (.ref 357) [.ref scr] H fun b _ => b = .bool true := by
  refine cl_def (n := 398) (fn_of hK (f := 357) rfl rfl rfl) (names := ["script"]) (by l_fit) (by decide) (by decide) fun L => ?_
  refine' exs_nmE ?a1
  refine' ev_arr ?a2
  refine' evl_cons ?a3
  refine' ev_tcallE ?a4 ?a5 ?a6 ?a7 ?a8 ?a9
  case a4 => exact pe_enum hK (x := "list") rfl (by decide) rfl rfl rfl (by decide)
  case a6 => exact List.cons_ne_nil _ _
  case a7 => intro _ _ e; cases e; rfl
  case a8 => intro _ _ e; cases e; rfl
  case a9 => rfl
  refine' evl_cons ?b1
  refine' ev_arr_upto (b := 31) ?b2
  refine' EV.of_PE (a := .ref scr) ?b3 ?b4
  case b3 => k_mem
  refine ⟨scr, ns.map .int, rfl, .inr hs, by simp; omega, by k_mem, fun c hc => ?_⟩
  rw [← List.map_take]
  have hz2 : ((ns.take 31).map AV.int).length ≤ 31 := by simp; omega
  refine' evl_nil ?b5
  refine' cl_list (xs := (ns.take 31).map .int) ?b6 ?b7 ?b8
  case b6 => exact .inl (HM.put_self ..)
  case b7 => omega
  case b8 =>
  intro bl hbl
  refine' evl_cons ?b9
  refine' EV.of_PE (a := .int 0) ?c1 ?c2
  case c1 => k_mem
  refine' evl_nil ⟨Nat.le_of_ble_eq_true rfl, fun bx hbx => ?c3⟩
  have q1 : ((H.put c (.lst ((ns.take 31).map .int))).put bl (.lst ((ns.take 31).map .int))) bl = some (.lst ((ns.take 31).map .int)) := HM.put_self ..
  have q2 := (Le.refl _).put hbx (o := .arr [.ref bl, .int 0]) _ _ q1
  have q3 : (((H.put c (.lst ((ns.take 31).map .int))).put bl (.lst ((ns.take 31).map .int))).put bx (.arr [.ref bl, .int 0])) bx = some (.arr [.ref bl, .int 0]) := HM.put_self ..
  generalize ((H.put c (.lst ((ns.take 31).map .int))).put bl (.lst ((ns.take 31).map .int))).put bx (.arr [.ref bl, .int 0]) = H3 at q2 q3 ⊢
  clear q1 hbx hbl hc hs
  refine EXS.frzAny (fun X2 H2 => IsK X2 ∧ X2.S bl = some (.lst ((ns.take 31).map .int)) ∧ H2 bx = some (.arr [.ref bl, .int 0])) (fun a => decide (a = bl)) (fun hn => ⟨hK.withS _, frz_S (P := fun a => decide (a = bl)) (hn _ _ q2) (decide_eq_true rfl) q2, ?_⟩) fun X1 H4 ⟨hK1, hbl, hbx⟩ => ?_
  · show (if decide (bx = bl) = true then none else H3 bx) = _
    rw [if_neg (by simpa using Ne.symm (HM.ne2 q2 q3 nofun))]; exact q3
  clear hK q2 q3 H3
  -- the net
  refine' exs_nmE ?d1
  refine' ev_callE (f := 301) ?d2 ?d3 ?d4 (hne := ?d5) (hstar := ?d6) (he := ?d7)
  case d5 => exact List.cons_ne_nil _ _
  case d6 => intro _ _ e; cases e; rfl
  case d7 => rfl
  case d2 => exact fn_of hK1 rfl rfl rfl
  case d3 => k_same
  refine' evl_cons ?d8
  refine' ev_cm ?d9 ?e1
  case e1 => exact rfl
  refine' ev_call (f := 287) ?e2 ?e3 ?e4 ?e5
  case e2 => exact fn_of hK1 rfl rfl rfl
  case e3 => k_same
  case e4 => k_all
  refine ((c_drawn hK1 (m := 2) hbx hbl (by decide) (by decide) (by omega) (by decide)).less (by decide)).mono fun b H' pq0 => ?_
  obtain ⟨⟨r, e, r1, r2⟩, eH⟩ := pq0
  subst e eH
  refine ⟨.int 1, _, ?_, .base (.eqI r 1), ?_⟩
  · k_mem
  refine' evl_nil ?e6
  refine ((c_net hK1 (r := r == 1) (H0 := H4.put bx (.arr [.ref bl, .int (0 + 1)]))).less (by decide)).mono fun b H' pq0 => ?_
  obtain ⟨net, wire, nodes, told, ρ', e, oi⟩ := pq0
  subst e
  have hbx2 : H' bx = some (.arr [.ref bl, .int 1]) := oi.old _ _ (HM.put_self ..)
  obtain ⟨P, hP⟩ := lay_of (X := X1) oi hbx2
  refine EXS.frzAny (fun X2 H2 => IsK X2 ∧ X2.S bl = some (.lst ((ns.take 31).map .int)) ∧ ∃ A : Lay X2, A.addr sNet = net ∧ A.addr sBox = bx ∧ H2 = A.H (st0 bl 1)) P (fun hn => ⟨hK1.withS _, frz_le _ _ hbl, ?_⟩) fun X2 H2 ⟨hK2, hbl2, A, a1, a2, a3⟩ => ?_
  · obtain ⟨A, a1, a2, a3⟩ := hP hn
    exact ⟨A, a1, a2, a3⟩
  subst a1 a2 a3
  clear hP hbx2 oi hbx hbl hK1 r1 r2
  -- the first state, the first row told
  refine' exs_nmE ?f1
  refine' ev_call (f := 343) ?f2 ?f3 ?f4 ?f5
  case f2 => exact fn_of hK2 rfl rfl rfl
  case f3 => k_same
  case f4 => k_all
  refine ((f_state hK2 (Le.refl _) (inv0 (A := A) bl 1)).less (by decide)).mono fun b H5 pq0 => ?_
  obtain ⟨h, o, e, g1, g2, g3, g4, g5, g6, g7⟩ := pq0
  subst e
  refine' exs_ex ?f6
  refine' ev_call (f := 315) ?f7 ?f8 ?f9 ?g1
  case f7 => exact fn_of hK2 rfl rfl rfl
  case f8 => k_same
  case f9 => k_all
  refine ((f_told hK2 g6 (inv0 (A := A) bl 1) (Int.le_refl _) (by decide) (Nat.zero_le _) (fun s hs => by unfold St.toldN; split <;> exact (by decide : (0 : Int) ≤ 3)) (show (0 : Int) < 3 by decide) (.inl rfl)).less (by decide)).mono fun b H6 pq0 => ?_
  obtain ⟨H7, R, l7, k7⟩ := pq0
  obtain ⟨st, hv, ov, e7, I, S, C, w1, w2, w3, w4⟩ := R.ex
  subst e7
  -- the turns
  refine exs_c ?_
  refine' ex_for_range (N := 10) ?h1 ?h2 ?h3 ?h4
  case h1 => exact pe_enum hK2 (x := "range") rfl (by decide) rfl rfl rfl (by decide)
  case h2 => k_mem
  case h3 => decide
  refine lp_invJ (LI A bl) (fun i : Nat => .int i) ?_ ?_ rfl rfl (List.range 10) _ _ ⟨⟨st, h, o, hv, ov, _, _, l7, k7 _ _ g4 g1, k7 _ _ g5 g2, A.Hoff _ _ g1, A.Hoff _ _ g2, I, S, C, by have : (st0 bl 1).wire.length = 0 := rfl; omega, fun s hs => (w4 s hs).2, w2, by rw [w3]; exact (by decide : (0 : Int) ≤ 1), by rw [w3]; exact Int.le_refl _, rfl⟩, Nat.le_refl _, rfl, rfl⟩
  · clear R l7 k7 I S C w1 w2 w3 w4 g4 g5 g6 g7 g1 g2 g3
    rintro i js ρ H8 ⟨⟨st, h, o, hv, ov, hv0, ov0, l7, k1, k2, g1, g2, I, S, C, w1, w2, w3, w4, w5, f3⟩, len, f1, f2⟩
    simp only [List.length_cons] at w1 w5 I len
    have len' : js.length + 1 ≤ 10 := len
    refine' exs_nmE ?i1
    refine' ev_call (f := 343) ?i2 ?i3 ?i4 ?i5
    case i2 => exact fn_of hK2 rfl rfl rfl
    case i3 => k_same
    case i4 => k_all
    refine ((f_state hK2 l7 I).less (by decide)).mono fun b H9 pq0 => ?_
    obtain ⟨h1, o1, e, m1, m2, m3, m4, m5, m6, m7⟩ := pq0
    subst e
    have n1 := m7 _ _ k1 g1
    have n2 := m7 _ _ k2 g2
    refine' exs_if0 (c := false) ?i6 ?i7 ?i8
    case i7 => intro c; cases c
    case i6 =>
      refine' pt_conv (b := false) (pt_or ?i9 fun _ => pt_or (pt_not (pt_plain ?j1 (.bool true))) fun _ => tv_or_nil) ?j2
      case i9 => k_memK
      case j2 => rfl
      case j1 =>
        refine' ev_call (f := 350) ?j3 ?j4 ?j5 ?j6
        case j3 => exact fn_of hK2 rfl rfl rfl
        case j4 => k_same
        case j5 => k_all
        case j6 => exact (f_right hK2 m6 I S C n1 n2 m4 m5 g1 g2 m1 m2).less (by decide)
    intro _
    refine' exs_nm ?j7 ?j8
    case j7 => k_mem
    clear n1 n2 k1 k2 g1 g2 l7 m7
    refine exs_c ?_
    refine' ex_swapE (names := ["form", "pick", "wait"]) ?k1 ?k2 ?k3 ?k4 ?k5 ?k6
    case k2 => exact rfl
    case k3 =>
      intro z hz
      have hz' : z = Str.ofString "wait" ∨ z = Str.ofString "pick" ∨ z = Str.ofString "form" := by simpa using hz
      rcases hz' with rfl | rfl | rfl <;> kernel_rfl
    case k4 => exact rfl
    case k5 => exact rfl
    case k6 => exact rfl
    have bx9 := m6 _ _ (A.Hbox st)
    rw [w3] at bx9
    refine' ev_tuple ?l1
    refine' evl_cons ?l2
    refine' ev_call (f := 287) ?l3 ?l4 ?l5 ?l6
    case l3 => exact fn_of hK2 rfl rfl rfl
    case l4 => k_same
    case l5 => k_all
    refine ((c_drawn hK2 (m := 8) bx9 hbl2 w4 (by omega) (by omega) (by decide)).less (by decide)).mono fun b H' pq0 => ?_
    obtain ⟨⟨form, e, r1, r2⟩, eH⟩ := pq0
    subst e eH
    refine' evl_cons ?l7
    refine' ev_call (f := 287) ?l8 ?l9 ?o1 ?o2
    case l8 => exact fn_of hK2 rfl rfl rfl
    case l9 => k_same
    case o1 => k_all
    refine ((c_drawn hK2 (m := 6) (HM.put_self ..) hbl2 (by omega) (by omega) (by omega) (by decide)).less (by decide)).mono fun b H' pq0 => ?_
    obtain ⟨⟨pick, e, r3, r4⟩, eH⟩ := pq0
    subst e eH
    refine' evl_cons ?o3
    refine' ev_call (f := 287) ?o4 ?o5 ?o6 ?o7
    case o4 => exact fn_of hK2 rfl rfl rfl
    case o5 => k_same
    case o6 => k_all
    refine ((c_drawn hK2 (m := 3) (HM.put_self ..) hbl2 (by omega) (by omega) (by omega) (by decide)).less (by decide)).mono fun b H' pq0 => ?_
    obtain ⟨⟨wait, e, r5, r6⟩, eH⟩ := pq0
    subst e eH
    refine' evl_nil ⟨Nat.le_of_ble_eq_true rfl, _, rfl, rfl, ?o8⟩
    refine cont_next ?_
    have hpp : ∀ (H : HM) (t : Addr) (x y : AO), (H.put t x).put t y = H.put t y := fun H t x y => by funext b; unfold HM.put; split <;> rfl
    rw [hpp, hpp]
    have m6b : Le (A.H { st with bk := st.bk + 1 + 1 + 1 }) (H9.put (A.addr sBox) (.arr [.ref bl, .int (st.bk + 1 + 1 + 1)])) := by
      rw [← A.putBox st (st.bk + 1 + 1 + 1), w3]
      exact m6.put2 _ _
    have hnb : ∀ {x : Addr}, A.H st x = none → x ≠ A.addr sBox := fun e q => by rw [q, A.Hbox] at e; cases e
    have m4b := (HM.put_ne H9 (.arr [.ref bl, .int (st.bk + 1 + 1 + 1)]) (hnb m1)).trans m4
    have m5b := (HM.put_ne H9 (.arr [.ref bl, .int (st.bk + 1 + 1 + 1)]) (hnb m2)).trans m5
    generalize H9.put (A.addr sBox) (.arr [.ref bl, .int (st.bk + 1 + 1 + 1)]) = H10 at m6b m4b m5b ⊢
    have n1 : A.H { st with bk := st.bk + 1 + 1 + 1 } h1 = none := A.Hoff _ _ m1
    have n2 : A.H { st with bk := st.bk + 1 + 1 + 1 } o1 = none := A.Hoff _ _ m2
    have net10 := m6b _ _ (A.Hnet _)
    clear bx9 m4 m5 m6 m1 m2 hpp hnb
    -- time
    refine' exs_as (a := .int (st.now + wait)) ?p1 ?p2
    case p1 => k_mem
    refine' tg_sub ?p3 ?p4 ?p5 ?p6
    case p3 => k_mem
    case p4 => k_mem
    case p5 => exact .sd net10 (by simp)
    rw [store_now]
    have m6c : Le (A.H { st with now := st.now + wait, came := st.came, bk := st.bk + 1 + 1 + 1 }) (H10.put (A.addr sNet) (.sd [("now", .int (st.now + wait)), ("wire", .ref (A.addr sWire)), ("nodes", .ref A.nodes), ("told", .ref (A.addr sTold)), ("came", st.came)])) := by
      rw [show ({ st with now := st.now + wait, came := st.came, bk := st.bk + 1 + 1 + 1 } : St) = { ({ st with bk := st.bk + 1 + 1 + 1 } : St) with now := st.now + wait, came := st.came } from rfl, ← A.putNet]
      exact m6b.put2 _ _
    have hnb : ∀ {x : Addr}, A.H { st with bk := st.bk + 1 + 1 + 1 } x = none → x ≠ A.addr sNet := fun e q => by rw [q, A.Hnet] at e; cases e
    have m4c := (HM.put_ne H10 (.sd [("now", .int (st.now + wait)), ("wire", .ref (A.addr sWire)), ("nodes", .ref A.nodes), ("told", .ref (A.addr sTold)), ("came", st.came)]) (hnb n1)).trans m4b
    have m5c := (HM.put_ne H10 (.sd [("now", .int (st.now + wait)), ("wire", .ref (A.addr sWire)), ("nodes", .ref A.nodes), ("told", .ref (A.addr sTold)), ("came", st.came)]) (hnb n2)).trans m5b
    generalize H10.put (A.addr sNet) (.sd [("now", .int (st.now + wait)), ("wire", .ref (A.addr sWire)), ("nodes", .ref A.nodes), ("told", .ref (A.addr sTold)), ("came", st.came)]) = H11 at m6c m4c m5c ⊢
    have I2 := I.later r5 st.came (st.bk + 1 + 1 + 1)
    have n1c : A.H { st with now := st.now + wait, came := st.came, bk := st.bk + 1 + 1 + 1 } h1 = none := A.Hoff _ _ n1
    have n2c : A.H { st with now := st.now + wait, came := st.came, bk := st.bk + 1 + 1 + 1 } o1 = none := A.Hoff _ _ n2
    clear n1 n2 net10 hnb m6b m4b m5b
    -- the deed
    refine' exs_ex ?q1
    refine' ev_call (f := 336) ?q2 ?q3 ?q4 ?q5
    case q2 => exact fn_of hK2 rfl rfl rfl
    case q3 => k_same
    case q4 => k_all
    refine ((f_deed hK2 m6c I2 (by omega) (by omega) (by show st.wire.length ≤ _; omega) w2 r3).less (by decide)).mono fun b H12 pq0 => ?_
    obtain ⟨H13, R, l13, k13⟩ := pq0
    obtain ⟨st', hv', ov', e7, I', S', C', y1, y2, y3, y4⟩ := R.ex
    subst e7
    replace y1 : st'.wire.length ≤ st.wire.length + 4 := y1
    replace y2 : st'.bl = st.bl := y2
    replace y3 : st'.bk = st.bk + 1 + 1 + 1 := y3
    refine exs_0 ⟨.inl rfl, ⟨⟨st', h1, o1, hv', ov', hv, ov, l13, k13 _ _ m4c n1c, k13 _ _ m5c n2c, A.Hoff _ _ n1c, A.Hoff _ _ n2c, I'.move rfl rfl rfl rfl rfl (by omega) fun m hm => (I'.wire m hm).mono (by omega) fun _ _ _ _ => Int.le_refl _, S', C', by omega, fun s hs => (y4 s hs).2, y2.trans w3, by omega, by omega, rfl⟩, by omega, f1, f2⟩⟩
  · clear R l7 k7 I S C w1 w2 w3 w4 g4 g5 g6 g7 g1 g2 g3
    rintro ρ H8 ⟨⟨st, h, o, hv, ov, hv0, ov0, l7, k1, k2, g1, g2, I, S, C, w1, w2, w3, w4, w5, f3⟩, len, f1, f2⟩
    refine cont_next ?_
    refine' exs_nmE ?t1
    refine' ev_call (f := 343) ?t2 ?t3 ?t4 ?t5
    case t2 => exact fn_of hK2 rfl rfl rfl
    case t3 => k_same
    case t4 => k_all
    refine ((f_state hK2 l7 I).less (by decide)).mono fun b H9 pq0 => ?_
    obtain ⟨h1, o1, e, m1, m2, m3, m4, m5, m6, m7⟩ := pq0
    subst e
    have n1 := m7 _ _ k1 g1
    have n2 := m7 _ _ k2 g2
    refine' exs_ret (a := .bool true) ?t6 rfl
    case t6 =>
      refine' pe_and (a := .bool true) (c := true) ?t7 (.bool true) ?t8 ?t9
      case t7 => k_mem
      case t8 => intro c; cases c
      case t9 =>
        intro _
        refine pe_bool1 ?_
        refine' ev_call (f := 350) ?u3 ?u4 ?u5 ?u6
        case u3 => exact fn_of hK2 rfl rfl rfl
        case u4 => k_same
        case u5 => k_all
        case u6 => exact (f_right hK2 m6 I S C n1 n2 m4 m5 g1 g2 m1 m2).less (by decide)
end

-- TFin
theorem isL_ints {h : Heap} : ∀ {vs : List Value} {ns : List Int}, IntsAre vs ns → IsL h vs (ns.map .int)
  | _, _, .nil => .nil
  | _, _, .cons _ _ r => .cons (.int _ _) (isL_ints r)
theorem aok_caller : AOk 400 callerA := ⟨rfl, by decide, by decide⟩
theorem law_runs {w : World} {s₁ : Shared} {mg mb : Str → Option Value} {fa a : Addr} {ns : List Int} {vs : List Value} (g : s₁.heap.Ns mainGlobals mg) (b : s₁.heap.Ns builtinsNs mb) (nl : s₁.heap.NoLimit) (hb : ∀ x : Str, x ≠ "__name__" → mb x = bootBuiltins x)
    (KX : (hd.heap_39 w.params).In s₁.heap) (sm : ∃ o, s₁.heap.get? sysModules = some o) (hg : s₁.gens = #[]) (hmg : mg "law" = some (.ref fa)) (hL : s₁.heap.IsList a vs.toArray) (hI : IntsAre vs ns) (hz : ns.length ≤ 63) :
    wpAny (model PW w) callerA (call (.ref fa) [.ref a]) (fun v s' => v = .bool true ∧ s'.gens = #[] ∧ s'.os = s₁.os ∧ ∀ b o, s₁.heap.get? b = some o → s'.heap.get? b = some o) (fun _ _ => False) s₁ := by
  let X : Cx PW w := { h₀ := s₁.heap, S := fun b => if b = a then some (.arr (ns.map .int)) else none, mg := mg, mb := mb, g := g, b := b, nolim := nl, sm := sm, K := hd.heap_39 w.params, KIn := KX }
  have hK : IsK X := ⟨rfl, hb⟩
  have hfa : fa = 357 := by
    have e := mgv hK (x := "law") (v := .ref 357) rfl
    have e2 : mg "law" = some (.ref 357) := e
    rw [hmg] at e2
    simpa using e2
  subst hfa
  have hc := c_law (X := X) (H := fun _ => none) hK (scr := a) (ns := ns) (if_pos rfl) hz
  have G : Good PW w X.h₀ X.S (fun _ => none) s₁ := ⟨fun _ _ e => e, (fun b ao e => by
    have e' : (if b = a then some (AO.arr (ns.map .int)) else none) = some ao := e
    split at e'
    · rename_i q
      subst q
      cases e'
      exact ⟨⟨vs.toArray, hL, by simpa using isL_ints hI⟩, rfl⟩
    · cases e'), (fun _ _ e => by cases e), hg⟩
  refine wpAny_mono (hc callerA s₁ [.ref a] aok_caller G (.cons (.ref a) .nil)) (fun v s' pq0 => ?_) fun _ _ e => e
  obtain ⟨b, H', i, g', x, q⟩ := pq0
  subst q
  first | apply i.ref_elim | apply i.bool_elim | apply i.ty_elim | apply i.bi_elim | cases i
  exact ⟨rfl, g'.gens, x.os, fun b o e => x.kept b o e rfl⟩
theorem law_holds : PySem.Challenge.rw_sj0182_01.Holds := hd (by
  intro w s₀ s₁ mg mb G Y fa o pm cd doc dV kV ho hd hcd hD hmg hg args vals as hpre hlay hrd hwl hlo
  have KX := kIn_of Y
  clear Y hcd hD hd ho
  refine Ground.open G ?_
  intro T B D TE TW
  clear B D TE TW
  wrow_args hpre hlay hrd hwl hlo
  rename_i ns h1 h2 h3 h4 h5 a1 a2 a vs a3 hL ra w1 r0 hI hr hc hc2
  refine wpAny_mono (law_runs T.g T.b T.nolimit T.builtins KX (by obtain ⟨mm, ⟨o, _, _, ho, _⟩, _⟩ := (T.seer (by decide +kernel)).mods; exact ⟨o, ho⟩) hg hmg hL hI (by omega)) (fun v s' pq0 => ?_) fun _ _ e => e.elim
  obtain ⟨e, e1, e2, e3⟩ := pq0
  subst e
  refine GoodW.toG ⟨.inl ⟨.bool true, .bool true, [], rfl, ?_, .bool true, ?_, fun _ => ⟨List.nodup_nil, fun _ h => nomatch h⟩⟩, e3, e2, e1⟩
  · exact fun _ => rfl
  · refine postW_of (by wrow_shape) (by wtm_val) ?_
    rfl)

end Mine
open PySem PySem.W PyProof.Rows
theorem PySem.Challenge.cw_sj0182_01_holds : PySem.Challenge.rw_sj0182_01.Holds :=
  Mine.law_holds
