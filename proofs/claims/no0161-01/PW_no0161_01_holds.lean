import PyProof.Rows.All
import Wide.All
import OpenK.AllK
import Wide.FinOn
import PySem.Challenge.RW_no0161_01
open PySem PySem.W PyProof.Rows PySem.Calls
set_option Elab.async false
set_option linter.unusedVariables false
set_option linter.unusedSimpArgs false
set_option maxRecDepth 10000
namespace Mine
section SHk
set_option Elab.async false
/-- the row's program -/
noncomputable abbrev lawP : Program := PySem.Challenge.rw_no0161_01.row.prog
noncomputable def stI (i : Nat) : Stmt := match lawP.main.body[i]? with | some s => s | none => .Pass default
noncomputable def meI (i j : Nat) : Stmt := match stI i with | .ClassDef _ _ _ b _ _ _ _ _ _ _ => (match b[j]? with | some s => s | none => .Pass default) | _ => .Pass default
noncomputable def sV (s : String) (t : Nat) : Value := .str (Str.ofString s) t
noncomputable def eT (P : Params) (s : String) (t : Nat) (v : Value) : DictEntry := { hash := PyData.keyHash P (Str.ofString s), key := .str (Str.ofString s) t, val := v }
/-- a def's object -/
noncomputable def fnO (st : Stmt) (q m : String) (t : Nat) (cd : Addr) : Obj := match st with
  | .FunctionDef name args body _ _ _ scope _ _ _ => { cls := .type "function", data := .func { name := name, qualname := Str.ofString q, params := args, body := .stmts body, scope := scope, globals := 3, closure := [], defaults := .none, kwdefaults := .none, pyModule := .str (Str.ofString m) t, code := .ref cd } }
  | _ => { cls := .none, data := .plain }
noncomputable def clO (n : String) (a ns : Addr) (t u : Nat) : Obj :=
  { cls := .type "type", data := .cls { name := Str.ofString n, bases := [.type "object"], mro := [.ref a, .type "object"], ns := ns, qualname := Str.ofString n }, slots := #[none, none, some (sV n t), some (sV n u), some (.builtin "object.__new__"), some (.bool true)] }
noncomputable def hO3 (P : Params) : Obj := { cls := .type "dict", data := .dict #[eT P "__name__" 165 (sV "law_no0161_01" 576), eT P "__doc__" 166 (.none), eT P "__package__" 167 (.none), eT P "__loader__" 168 (.builtin "__main__.__loader__#opaque"), eT P "__spec__" 169 (.none), eT P "__annotations__" 170 (.ref 6), eT P "__builtins__" 171 (.ref 4), eT P "__file__" 173 (sV "/claim/cut.py" 172), eT P "__cached__" 174 (.none), eT P "_wall" 193 (.ref 21), eT P "VAR_KEY" 197 (.ref 22), eT P "LIST_KEY" 199 (.ref 23), eT P "FAIL_LABEL" 202 (.int (-1) 201), eT P "matching" 210 (.ref 30), eT P "all_variable" 218 (.ref 37), eT P "BlockBuilder" 340 (.ref 110), eT P "small_block" 347 (.ref 121), eT P "chain_block" 358 (.ref 128), eT P "index_block" 368 (.ref 135), eT P "clause_groups" 378 (.ref 142), eT P "group_block" 393 (.ref 149), eT P "F_MINUS1" 397 (.int 12 396), eT P "F_MINUS" 399 (.int 13 398), eT P "F_PLUS" 401 (.int 14 400), eT P "fixed_atoms" 407 (.ref 156), eT P "fixed_functors" 413 (.ref 163), eT P "Symbols" 534 (.ref 250), eT P "CON" 536 (.int 4 535), eT P "INT" 538 (.int 5 537), eT P "ClauseCode" 575 (.ref 271), eT P "_law_row" 588 (.ref 282), eT P "_law_next" 595 (.ref 289), eT P "_law_key" 603 (.ref 296), eT P "_law_matches" 611 (.ref 303), eT P "_law_target" 621 (.ref 310), eT P "_law_visits" 640 (.ref 317), eT P "law" 646 (.ref 322)] 37 }
noncomputable def hO20 (P : Params) : Obj := { cls := .type "code", data := .fields #[sV "_wall" 187, sV "_wall" 188, sV "/claim/cut.py" 189, .int 1 0, .int 1 0, .int 0 0, .int 0 0, .int 3 0, .ref 15, .bool true, .int 181 0, .ref 16, .none, .ref 17, .ref 18, .ref 19, .int 191 0, .int 1 0, sV "/claim/cut.py" 192] }
noncomputable def hO21 (P : Params) : Obj := fnO (stI 0) "_wall" "__main__" 164 20
noncomputable def hO22 (P : Params) : Obj := { cls := .type "tuple", data := .seq #[sV "var" 196] }
noncomputable def hO23 (P : Params) : Obj := { cls := .type "tuple", data := .seq #[sV "list" 198] }
noncomputable def hO29 (P : Params) : Obj := { cls := .type "code", data := .fields #[sV "matching" 203, sV "matching" 204, sV "/claim/cut.py" 205, .int 8 0, .int 2 0, .int 0 0, .int 0 0, .int 3 0, .ref 24, .bool true, .int 181 0, .ref 25, .none, .ref 26, .ref 27, .ref 28, .int 208 0, .int 8 0, sV "/claim/cut.py" 209] }
noncomputable def hO30 (P : Params) : Obj := fnO (stI 5) "matching" "clausemill.indexer" 194 29
noncomputable def hO36 (P : Params) : Obj := { cls := .type "code", data := .fields #[sV "all_variable" 211, sV "all_variable" 212, sV "/claim/cut.py" 213, .int 12 0, .int 1 0, .int 0 0, .int 0 0, .int 3 0, .ref 31, .bool true, .int 181 0, .ref 32, .none, .ref 33, .ref 34, .ref 35, .int 216 0, .int 12 0, sV "/claim/cut.py" 217] }
noncomputable def hO37 (P : Params) : Obj := fnO (stI 6) "all_variable" "clausemill.indexer" 194 36
noncomputable def hO50 (P : Params) : Obj := { cls := .type "code", data := .fields #[sV "__init__" 231, sV "BlockBuilder.__init__" 232, sV "/claim/cut.py" 233, .int 19 0, .int 3 0, .int 0 0, .int 0 0, .int 3 0, .ref 45, .bool true, .int 181 0, .ref 46, .none, .ref 47, .ref 48, .ref 49, .int 237 0, .int 19 0, sV "/claim/cut.py" 238] }
noncomputable def hO51 (P : Params) : Obj := fnO (meI 7 0) "BlockBuilder.__init__" "clausemill.indexer" 194 50
noncomputable def hO57 (P : Params) : Obj := { cls := .type "code", data := .fields #[sV "fresh_label" 240, sV "BlockBuilder.fresh_label" 241, sV "/claim/cut.py" 242, .int 27 0, .int 1 0, .int 0 0, .int 0 0, .int 3 0, .ref 52, .bool true, .int 181 0, .ref 53, .none, .ref 54, .ref 55, .ref 56, .int 245 0, .int 27 0, sV "/claim/cut.py" 246] }
noncomputable def hO58 (P : Params) : Obj := fnO (meI 7 1) "BlockBuilder.fresh_label" "clausemill.indexer" 194 57
noncomputable def hO64 (P : Params) : Obj := { cls := .type "code", data := .fields #[sV "chain_rows" 248, sV "BlockBuilder.chain_rows" 249, sV "/claim/cut.py" 250, .int 32 0, .int 2 0, .int 0 0, .int 0 0, .int 3 0, .ref 59, .bool true, .int 181 0, .ref 60, .none, .ref 61, .ref 62, .ref 63, .int 256 0, .int 32 0, sV "/claim/cut.py" 257] }
noncomputable def hO65 (P : Params) : Obj := fnO (meI 7 2) "BlockBuilder.chain_rows" "clausemill.indexer" 194 64
noncomputable def hO71 (P : Params) : Obj := { cls := .type "code", data := .fields #[sV "chain" 259, sV "BlockBuilder.chain" 260, sV "/claim/cut.py" 261, .int 40 0, .int 2 0, .int 0 0, .int 0 0, .int 3 0, .ref 66, .bool true, .int 181 0, .ref 67, .none, .ref 68, .ref 69, .ref 70, .int 266 0, .int 40 0, sV "/claim/cut.py" 267] }
noncomputable def hO72 (P : Params) : Obj := fnO (meI 7 3) "BlockBuilder.chain" "clausemill.indexer" 194 71
noncomputable def hO78 (P : Params) : Obj := { cls := .type "code", data := .fields #[sV "matching_places" 269, sV "BlockBuilder.matching_places" 270, sV "/claim/cut.py" 271, .int 53 0, .int 3 0, .int 0 0, .int 0 0, .int 3 0, .ref 73, .bool true, .int 181 0, .ref 74, .none, .ref 75, .ref 76, .ref 77, .int 277 0, .int 53 0, sV "/claim/cut.py" 278] }
noncomputable def hO79 (P : Params) : Obj := fnO (meI 7 4) "BlockBuilder.matching_places" "clausemill.indexer" 194 78
noncomputable def hO85 (P : Params) : Obj := { cls := .type "code", data := .fields #[sV "variable_places" 280, sV "BlockBuilder.variable_places" 281, sV "/claim/cut.py" 282, .int 60 0, .int 2 0, .int 0 0, .int 0 0, .int 3 0, .ref 80, .bool true, .int 181 0, .ref 81, .none, .ref 82, .ref 83, .ref 84, .int 287 0, .int 60 0, sV "/claim/cut.py" 288] }
noncomputable def hO86 (P : Params) : Obj := fnO (meI 7 5) "BlockBuilder.variable_places" "clausemill.indexer" 194 85
noncomputable def hO92 (P : Params) : Obj := { cls := .type "code", data := .fields #[sV "table" 290, sV "BlockBuilder.table" 291, sV "/claim/cut.py" 292, .int 67 0, .int 3 0, .int 0 0, .int 0 0, .int 3 0, .ref 87, .bool true, .int 181 0, .ref 88, .none, .ref 89, .ref 90, .ref 91, .int 300 0, .int 67 0, sV "/claim/cut.py" 301] }
noncomputable def hO93 (P : Params) : Obj := fnO (meI 7 6) "BlockBuilder.table" "clausemill.indexer" 194 92
noncomputable def hO99 (P : Params) : Obj := { cls := .type "code", data := .fields #[sV "switch" 303, sV "BlockBuilder.switch" 304, sV "/claim/cut.py" 305, .int 77 0, .int 2 0, .int 0 0, .int 0 0, .int 3 0, .ref 94, .bool true, .int 181 0, .ref 95, .none, .ref 96, .ref 97, .ref 98, .int 314 0, .int 77 0, sV "/claim/cut.py" 315] }
noncomputable def hO100 (P : Params) : Obj := fnO (meI 7 7) "BlockBuilder.switch" "clausemill.indexer" 194 99
noncomputable def hO106 (P : Params) : Obj := { cls := .type "code", data := .fields #[sV "finish" 317, sV "BlockBuilder.finish" 318, sV "/claim/cut.py" 319, .int 96 0, .int 1 0, .int 0 0, .int 0 0, .int 3 0, .ref 101, .bool true, .int 181 0, .ref 102, .none, .ref 103, .ref 104, .ref 105, .int 324 0, .int 96 0, sV "/claim/cut.py" 325] }
noncomputable def hO107 (P : Params) : Obj := fnO (meI 7 8) "BlockBuilder.finish" "clausemill.indexer" 194 106
noncomputable def hO109 (P : Params) : Obj := { cls := .type "dict", data := .dict #[eT P "__module__" 226 (sV "clausemill.indexer" 194), eT P "__firstlineno__" 230 (.int 17 229), eT P "__init__" 239 (.ref 51), eT P "fresh_label" 247 (.ref 58), eT P "chain_rows" 258 (.ref 65), eT P "chain" 268 (.ref 72), eT P "matching_places" 279 (.ref 79), eT P "variable_places" 289 (.ref 86), eT P "table" 302 (.ref 93), eT P "switch" 316 (.ref 100), eT P "finish" 326 (.ref 107), eT P "__static_attributes__" 333 (.ref 108), eT P "__dict__" 335 (.ref 111), eT P "__weakref__" 337 (.ref 112), eT P "__doc__" 338 (.none)] 4 }
noncomputable def hO110 (P : Params) : Obj := clO "BlockBuilder" 110 109 219 227
noncomputable def hO120 (P : Params) : Obj := { cls := .type "code", data := .fields #[sV "small_block" 341, sV "small_block" 342, sV "/claim/cut.py" 343, .int 106 0, .int 1 0, .int 0 0, .int 0 0, .int 3 0, .ref 115, .bool true, .int 181 0, .ref 116, .none, .ref 117, .ref 118, .ref 119, .int 345 0, .int 106 0, sV "/claim/cut.py" 346] }
noncomputable def hO121 (P : Params) : Obj := fnO (stI 8) "small_block" "clausemill.indexer" 194 120
noncomputable def hO127 (P : Params) : Obj := { cls := .type "code", data := .fields #[sV "chain_block" 348, sV "chain_block" 349, sV "/claim/cut.py" 350, .int 110 0, .int 3 0, .int 0 0, .int 0 0, .int 3 0, .ref 122, .bool true, .int 181 0, .ref 123, .none, .ref 124, .ref 125, .ref 126, .int 356 0, .int 110 0, sV "/claim/cut.py" 357] }
noncomputable def hO128 (P : Params) : Obj := fnO (stI 9) "chain_block" "clausemill.indexer" 194 127
noncomputable def hO134 (P : Params) : Obj := { cls := .type "code", data := .fields #[sV "index_block" 359, sV "index_block" 360, sV "/claim/cut.py" 361, .int 117 0, .int 3 0, .int 0 0, .int 0 0, .int 3 0, .ref 129, .bool true, .int 181 0, .ref 130, .none, .ref 131, .ref 132, .ref 133, .int 366 0, .int 117 0, sV "/claim/cut.py" 367] }
noncomputable def hO135 (P : Params) : Obj := fnO (stI 10) "index_block" "clausemill.indexer" 194 134
noncomputable def hO141 (P : Params) : Obj := { cls := .type "code", data := .fields #[sV "clause_groups" 369, sV "clause_groups" 370, sV "/claim/cut.py" 371, .int 125 0, .int 1 0, .int 0 0, .int 0 0, .int 3 0, .ref 136, .bool true, .int 181 0, .ref 137, .none, .ref 138, .ref 139, .ref 140, .int 376 0, .int 125 0, sV "/claim/cut.py" 377] }
noncomputable def hO142 (P : Params) : Obj := fnO (stI 11) "clause_groups" "clausemill.indexer" 194 141
noncomputable def hO148 (P : Params) : Obj := { cls := .type "code", data := .fields #[sV "group_block" 379, sV "group_block" 380, sV "/claim/cut.py" 381, .int 139 0, .int 3 0, .int 0 0, .int 0 0, .int 3 0, .ref 143, .bool true, .int 181 0, .ref 144, .none, .ref 145, .ref 146, .ref 147, .int 391 0, .int 139 0, sV "/claim/cut.py" 392] }
noncomputable def hO149 (P : Params) : Obj := fnO (stI 12) "group_block" "clausemill.indexer" 194 148
noncomputable def hO155 (P : Params) : Obj := { cls := .type "code", data := .fields #[sV "fixed_atoms" 402, sV "fixed_atoms" 403, sV "/claim/cut.py" 404, .int 166 0, .int 0 0, .int 0 0, .int 0 0, .int 3 0, .ref 150, .bool true, .int 181 0, .ref 151, .none, .ref 152, .ref 153, .ref 154, .int 405 0, .int 166 0, sV "/claim/cut.py" 406] }
noncomputable def hO156 (P : Params) : Obj := fnO (stI 17) "fixed_atoms" "clausemill.symbols" 394 155
noncomputable def hO162 (P : Params) : Obj := { cls := .type "code", data := .fields #[sV "fixed_functors" 408, sV "fixed_functors" 409, sV "/claim/cut.py" 410, .int 168 0, .int 0 0, .int 0 0, .int 0 0, .int 3 0, .ref 157, .bool true, .int 181 0, .ref 158, .none, .ref 159, .ref 160, .ref 161, .int 411 0, .int 168 0, sV "/claim/cut.py" 412] }
noncomputable def hO163 (P : Params) : Obj := fnO (stI 18) "fixed_functors" "clausemill.symbols" 394 162
noncomputable def hO176 (P : Params) : Obj := { cls := .type "code", data := .fields #[sV "__init__" 426, sV "Symbols.__init__" 427, sV "/claim/cut.py" 428, .int 172 0, .int 1 0, .int 0 0, .int 0 0, .int 3 0, .ref 171, .bool true, .int 181 0, .ref 172, .none, .ref 173, .ref 174, .ref 175, .int 432 0, .int 172 0, sV "/claim/cut.py" 433] }
noncomputable def hO177 (P : Params) : Obj := fnO (meI 19 0) "Symbols.__init__" "clausemill.symbols" 394 176
noncomputable def hO183 (P : Params) : Obj := { cls := .type "code", data := .fields #[sV "atom" 435, sV "Symbols.atom" 436, sV "/claim/cut.py" 437, .int 182 0, .int 2 0, .int 0 0, .int 0 0, .int 3 0, .ref 178, .bool true, .int 181 0, .ref 179, .none, .ref 180, .ref 181, .ref 182, .int 442 0, .int 182 0, sV "/claim/cut.py" 443] }
noncomputable def hO184 (P : Params) : Obj := fnO (meI 19 1) "Symbols.atom" "clausemill.symbols" 394 183
noncomputable def hO190 (P : Params) : Obj := { cls := .type "code", data := .fields #[sV "text" 445, sV "Symbols.text" 446, sV "/claim/cut.py" 447, .int 191 0, .int 2 0, .int 0 0, .int 0 0, .int 3 0, .ref 185, .bool true, .int 181 0, .ref 186, .none, .ref 187, .ref 188, .ref 189, .int 450 0, .int 191 0, sV "/claim/cut.py" 451] }
noncomputable def hO191 (P : Params) : Obj := fnO (meI 19 2) "Symbols.text" "clausemill.symbols" 394 190
noncomputable def hO197 (P : Params) : Obj := { cls := .type "code", data := .fields #[sV "functor" 453, sV "Symbols.functor" 454, sV "/claim/cut.py" 455, .int 194 0, .int 3 0, .int 0 0, .int 0 0, .int 3 0, .ref 192, .bool true, .int 181 0, .ref 193, .none, .ref 194, .ref 195, .ref 196, .int 462 0, .int 194 0, sV "/claim/cut.py" 463] }
noncomputable def hO198 (P : Params) : Obj := fnO (meI 19 3) "Symbols.functor" "clausemill.symbols" 394 197
noncomputable def hO204 (P : Params) : Obj := { cls := .type "code", data := .fields #[sV "func" 465, sV "Symbols.func" 466, sV "/claim/cut.py" 467, .int 204 0, .int 3 0, .int 0 0, .int 0 0, .int 3 0, .ref 199, .bool true, .int 181 0, .ref 200, .none, .ref 201, .ref 202, .ref 203, .int 471 0, .int 204 0, sV "/claim/cut.py" 472] }
noncomputable def hO205 (P : Params) : Obj := fnO (meI 19 4) "Symbols.func" "clausemill.symbols" 394 204
noncomputable def hO211 (P : Params) : Obj := { cls := .type "code", data := .fields #[sV "name" 474, sV "Symbols.name" 475, sV "/claim/cut.py" 476, .int 207 0, .int 2 0, .int 0 0, .int 0 0, .int 3 0, .ref 206, .bool true, .int 181 0, .ref 207, .none, .ref 208, .ref 209, .ref 210, .int 479 0, .int 207 0, sV "/claim/cut.py" 480] }
noncomputable def hO212 (P : Params) : Obj := fnO (meI 19 5) "Symbols.name" "clausemill.symbols" 394 211
noncomputable def hO218 (P : Params) : Obj := { cls := .type "code", data := .fields #[sV "arity" 482, sV "Symbols.arity" 483, sV "/claim/cut.py" 484, .int 210 0, .int 2 0, .int 0 0, .int 0 0, .int 3 0, .ref 213, .bool true, .int 181 0, .ref 214, .none, .ref 215, .ref 216, .ref 217, .int 487 0, .int 210 0, sV "/claim/cut.py" 488] }
noncomputable def hO219 (P : Params) : Obj := fnO (meI 19 6) "Symbols.arity" "clausemill.symbols" 394 218
noncomputable def hO225 (P : Params) : Obj := { cls := .type "code", data := .fields #[sV "label" 490, sV "Symbols.label" 491, sV "/claim/cut.py" 492, .int 213 0, .int 2 0, .int 0 0, .int 0 0, .int 3 0, .ref 220, .bool true, .int 181 0, .ref 221, .none, .ref 222, .ref 223, .ref 224, .int 496 0, .int 213 0, sV "/claim/cut.py" 497] }
noncomputable def hO226 (P : Params) : Obj := fnO (meI 19 7) "Symbols.label" "clausemill.symbols" 394 225
noncomputable def hO232 (P : Params) : Obj := { cls := .type "code", data := .fields #[sV "count" 499, sV "Symbols.count" 500, sV "/claim/cut.py" 501, .int 217 0, .int 1 0, .int 0 0, .int 0 0, .int 3 0, .ref 227, .bool true, .int 181 0, .ref 228, .none, .ref 229, .ref 230, .ref 231, .int 503 0, .int 217 0, sV "/claim/cut.py" 504] }
noncomputable def hO233 (P : Params) : Obj := fnO (meI 19 8) "Symbols.count" "clausemill.symbols" 394 232
noncomputable def hO239 (P : Params) : Obj := { cls := .type "code", data := .fields #[sV "functor_count" 506, sV "Symbols.functor_count" 507, sV "/claim/cut.py" 508, .int 220 0, .int 1 0, .int 0 0, .int 0 0, .int 3 0, .ref 234, .bool true, .int 181 0, .ref 235, .none, .ref 236, .ref 237, .ref 238, .int 510 0, .int 220 0, sV "/claim/cut.py" 511] }
noncomputable def hO240 (P : Params) : Obj := fnO (meI 19 9) "Symbols.functor_count" "clausemill.symbols" 394 239
noncomputable def hO246 (P : Params) : Obj := { cls := .type "code", data := .fields #[sV "known" 513, sV "Symbols.known" 514, sV "/claim/cut.py" 515, .int 223 0, .int 3 0, .int 0 0, .int 0 0, .int 3 0, .ref 241, .bool true, .int 181 0, .ref 242, .none, .ref 243, .ref 244, .ref 245, .int 520 0, .int 223 0, sV "/claim/cut.py" 521] }
noncomputable def hO247 (P : Params) : Obj := fnO (meI 19 10) "Symbols.known" "clausemill.symbols" 394 246
noncomputable def hO249 (P : Params) : Obj := { cls := .type "dict", data := .dict #[eT P "__module__" 421 (sV "clausemill.symbols" 394), eT P "__firstlineno__" 425 (.int 170 424), eT P "__init__" 434 (.ref 177), eT P "atom" 444 (.ref 184), eT P "text" 452 (.ref 191), eT P "functor" 464 (.ref 198), eT P "func" 473 (.ref 205), eT P "name" 481 (.ref 212), eT P "arity" 489 (.ref 219), eT P "label" 498 (.ref 226), eT P "count" 505 (.ref 233), eT P "functor_count" 512 (.ref 240), eT P "known" 522 (.ref 247), eT P "__static_attributes__" 527 (.ref 248), eT P "__dict__" 529 (.ref 251), eT P "__weakref__" 531 (.ref 252), eT P "__doc__" 532 (.none)] 4 }
noncomputable def hO250 (P : Params) : Obj := clO "Symbols" 250 249 414 422
noncomputable def hO267 (P : Params) : Obj := { cls := .type "code", data := .fields #[sV "__init__" 553, sV "ClauseCode.__init__" 554, sV "/claim/cut.py" 555, .int 233 0, .int 5 0, .int 0 0, .int 0 0, .int 3 0, .ref 262, .bool true, .int 181 0, .ref 263, .none, .ref 264, .ref 265, .ref 266, .int 561 0, .int 233 0, sV "/claim/cut.py" 562] }
noncomputable def hO268 (P : Params) : Obj := fnO (meI 23 0) "ClauseCode.__init__" "clausemill.compiler" 539 267
noncomputable def hO270 (P : Params) : Obj := { cls := .type "dict", data := .dict #[eT P "__module__" 548 (sV "clausemill.compiler" 539), eT P "__firstlineno__" 552 (.int 231 551), eT P "__init__" 563 (.ref 268), eT P "__static_attributes__" 568 (.ref 269), eT P "__dict__" 570 (.ref 272), eT P "__weakref__" 572 (.ref 273), eT P "__doc__" 573 (.none)] 4 }
noncomputable def hO271 (P : Params) : Obj := clO "ClauseCode" 271 270 541 549
noncomputable def hO281 (P : Params) : Obj := { cls := .type "code", data := .fields #[sV "_law_row" 578, sV "_law_row" 579, sV "/claim/cut.py" 580, .int 239 0, .int 1 0, .int 0 0, .int 0 0, .int 3 0, .ref 276, .bool true, .int 181 0, .ref 277, .none, .ref 278, .ref 279, .ref 280, .int 586 0, .int 239 0, sV "/claim/cut.py" 587] }
noncomputable def hO282 (P : Params) : Obj := fnO (stI 25) "_law_row" "law_no0161_01" 576 281
noncomputable def hO288 (P : Params) : Obj := { cls := .type "code", data := .fields #[sV "_law_next" 589, sV "_law_next" 590, sV "/claim/cut.py" 591, .int 252 0, .int 1 0, .int 0 0, .int 0 0, .int 3 0, .ref 283, .bool true, .int 181 0, .ref 284, .none, .ref 285, .ref 286, .ref 287, .int 593 0, .int 252 0, sV "/claim/cut.py" 594] }
noncomputable def hO289 (P : Params) : Obj := fnO (stI 26) "_law_next" "law_no0161_01" 576 288
noncomputable def hO295 (P : Params) : Obj := { cls := .type "code", data := .fields #[sV "_law_key" 596, sV "_law_key" 597, sV "/claim/cut.py" 598, .int 254 0, .int 1 0, .int 0 0, .int 0 0, .int 3 0, .ref 290, .bool true, .int 181 0, .ref 291, .none, .ref 292, .ref 293, .ref 294, .int 601 0, .int 254 0, sV "/claim/cut.py" 602] }
noncomputable def hO296 (P : Params) : Obj := fnO (stI 27) "_law_key" "law_no0161_01" 576 295
noncomputable def hO302 (P : Params) : Obj := { cls := .type "code", data := .fields #[sV "_law_matches" 604, sV "_law_matches" 605, sV "/claim/cut.py" 606, .int 263 0, .int 2 0, .int 0 0, .int 0 0, .int 3 0, .ref 297, .bool true, .int 181 0, .ref 298, .none, .ref 299, .ref 300, .ref 301, .int 609 0, .int 263 0, sV "/claim/cut.py" 610] }
noncomputable def hO303 (P : Params) : Obj := fnO (stI 28) "_law_matches" "law_no0161_01" 576 302
noncomputable def hO309 (P : Params) : Obj := { cls := .type "code", data := .fields #[sV "_law_target" 612, sV "_law_target" 613, sV "/claim/cut.py" 614, .int 265 0, .int 2 0, .int 0 0, .int 0 0, .int 3 0, .ref 304, .bool true, .int 181 0, .ref 305, .none, .ref 306, .ref 307, .ref 308, .int 619 0, .int 265 0, sV "/claim/cut.py" 620] }
noncomputable def hO310 (P : Params) : Obj := fnO (stI 29) "_law_target" "law_no0161_01" 576 309
noncomputable def hO316 (P : Params) : Obj := { cls := .type "code", data := .fields #[sV "_law_visits" 622, sV "_law_visits" 623, sV "/claim/cut.py" 624, .int 274 0, .int 4 0, .int 0 0, .int 0 0, .int 3 0, .ref 311, .bool true, .int 181 0, .ref 312, .none, .ref 313, .ref 314, .ref 315, .int 638 0, .int 274 0, sV "/claim/cut.py" 639] }
noncomputable def hO317 (P : Params) : Obj := fnO (stI 30) "_law_visits" "law_no0161_01" 576 316
noncomputable def hO321 (P : Params) : Obj := { cls := .type "code", data := .fields #[sV "law" 641, sV "law" 642, sV "/claim/cut.py" 643, .int 316 0, .int 1 0, .int 0 0, .int 0 0, .int 3 0, .ref 318, .bool true, .int 181 0, .ref 319, .none, .none, .none, .ref 320, .int 644 0, .int 316 0, sV "/claim/cut.py" 645] }
noncomputable def hO322 (P : Params) : Obj := fnO (stI 31) "law" "law_no0161_01" 576 321
/-- the heap behind the top, as far as the law reads it -/
noncomputable def heapK (P : Params) : Frag :=
  [(3, hO3 P), (20, hO20 P), (21, hO21 P), (22, hO22 P), (23, hO23 P), (29, hO29 P), (30, hO30 P), (36, hO36 P), (37, hO37 P), (50, hO50 P), (51, hO51 P), (57, hO57 P), (58, hO58 P), (64, hO64 P), (65, hO65 P), (71, hO71 P), (72, hO72 P), (78, hO78 P), (79, hO79 P), (85, hO85 P), (86, hO86 P), (92, hO92 P), (93, hO93 P), (99, hO99 P), (100, hO100 P), (106, hO106 P), (107, hO107 P), (109, hO109 P), (110, hO110 P), (120, hO120 P), (121, hO121 P), (127, hO127 P), (128, hO128 P), (134, hO134 P), (135, hO135 P), (141, hO141 P), (142, hO142 P), (148, hO148 P), (149, hO149 P), (155, hO155 P), (156, hO156 P), (162, hO162 P), (163, hO163 P), (176, hO176 P), (177, hO177 P), (183, hO183 P), (184, hO184 P), (190, hO190 P), (191, hO191 P), (197, hO197 P), (198, hO198 P), (204, hO204 P), (205, hO205 P), (211, hO211 P), (212, hO212 P), (218, hO218 P), (219, hO219 P), (225, hO225 P), (226, hO226 P), (232, hO232 P), (233, hO233 P), (239, hO239 P), (240, hO240 P), (246, hO246 P), (247, hO247 P), (249, hO249 P), (250, hO250 P), (267, hO267 P), (268, hO268 P), (270, hO270 P), (271, hO271 P), (281, hO281 P), (282, hO282 P), (288, hO288 P), (289, hO289 P), (295, hO295 P), (296, hO296 P), (302, hO302 P), (303, hO303 P), (309, hO309 P), (310, hO310 P), (316, hO316 P), (317, hO317 P), (321, hO321 P), (322, hO322 P)]
noncomputable def fnC (st : Stmt) (q : String) : Obj := match st with
  | .FunctionDef name args body _ _ _ scope _ _ _ => { cls := .none, data := .func { name := name, qualname := Str.ofString q, params := args, body := .stmts body, scope := scope, globals := 0, closure := [], defaults := .none, kwdefaults := .none } }
  | _ => { cls := .none, data := .plain }
noncomputable def tE : Obj := { cls := .type "tuple", data := .seq #[] }
noncomputable def fE : Obj := { cls := .none, data := .fields #[] }
/-- the whole heap behind the top -/
noncomputable def heapAll (P : Params) : List Obj :=
  [PySem.W.boot_o_0 P,
   PySem.W.boot_o_1 P,
   PySem.W.boot_o_2 P,
   hO3 P,
   PySem.W.boot_o_4 P,
   PySem.W.boot_o_5 P,
   PySem.W.boot_o_6 P,
   PySem.W.boot_o_7 P,
   PySem.W.boot_o_8 P,
   PySem.W.boot_o_9 P,
   PySem.W.boot_o_10 P,
   tE,
   { cls := .none, data := .fields #[.int 1 0, .int 0 0, .ref 20, .int 8 0, .int 0 0, .ref 29, .int 12 0, .int 0 0, .ref 36, .int 17 0, .int 0 0, .ref 43, .int 106 0, .int 0 0, .ref 120, .int 110 0, .int 0 0, .ref 127, .int 117 0, .int 0 0, .ref 134, .int 125 0, .int 0 0, .ref 141, .int 139 0, .int 0 0, .ref 148, .int 166 0, .int 0 0, .ref 155, .int 168 0, .int 0 0, .ref 162, .int 170 0, .int 0 0, .ref 169, .int 231 0, .int 0 0, .ref 260, .int 239 0, .int 0 0, .ref 281, .int 252 0, .int 0 0, .ref 288, .int 254 0, .int 0 0, .ref 295, .int 263 0, .int 0 0, .ref 302, .int 265 0, .int 0 0, .ref 309, .int 274 0, .int 0 0, .ref 316, .int 316 0, .int 0 0, .ref 321] },
   { cls := .type "code", data := .fields #[sV "<module>" 182, sV "<module>" 183, sV "/claim/cut.py" 184, .int 1 0, .int 0 0, .int 0 0, .int 0 0, .int 0 0, .ref 11, .bool false, .int 181 0, .ref 12, .none, .none, .none, .none, .int 185 0, .int 1 0, sV "/claim/cut.py" 186] },
   { cls := .type "frame", data := .plain, slots := #[some (.ref 13), some (.ref 3), some (.ref 3), none, some (sV "__main__" 164), none, some (.ref 0)] },
   tE,
   fE,
   { cls := .type "tuple", data := .seq #[sV "k" 190] },
   tE,
   fnC (stI 0) "_wall",
   hO20 P,
   hO21 P,
   hO22 P,
   hO23 P,
   tE,
   fE,
   { cls := .type "tuple", data := .seq #[sV "key" 206, sV "cell_key" 207] },
   tE,
   fnC (stI 5) "matching",
   hO29 P,
   hO30 P,
   tE,
   fE,
   { cls := .type "tuple", data := .seq #[sV "codes" 214, sV "code" 215] },
   tE,
   fnC (stI 6) "all_variable",
   hO36 P,
   hO37 P,
   tE,
   { cls := .type "builtin_function_or_method", data := .fields #[.builtin "type.__prepare__", .type "type"] },
   { cls := .type "dict", data := .dict #[eT P "__module__" 226 (sV "clausemill.indexer" 194), eT P "__qualname__" 228 (sV "BlockBuilder" 227), eT P "__firstlineno__" 230 (.int 17 229), eT P "__init__" 239 (.ref 51), eT P "fresh_label" 247 (.ref 58), eT P "chain_rows" 258 (.ref 65), eT P "chain" 268 (.ref 72), eT P "matching_places" 279 (.ref 79), eT P "variable_places" 289 (.ref 86), eT P "table" 302 (.ref 93), eT P "switch" 316 (.ref 100), eT P "finish" 326 (.ref 107), eT P "__static_attributes__" 333 (.ref 108)] 13 },
   tE,
   { cls := .none, data := .fields #[.int 19 0, .int 4 0, .ref 50, .int 27 0, .int 4 0, .ref 57, .int 32 0, .int 4 0, .ref 64, .int 40 0, .int 4 0, .ref 71, .int 53 0, .int 4 0, .ref 78, .int 60 0, .int 4 0, .ref 85, .int 67 0, .int 4 0, .ref 92, .int 77 0, .int 4 0, .ref 99, .int 96 0, .int 4 0, .ref 106] },
   { cls := .type "code", data := .fields #[sV "BlockBuilder" 221, sV "BlockBuilder" 222, sV "/claim/cut.py" 223, .int 17 0, .int 0 0, .int 0 0, .int 0 0, .int 0 0, .ref 41, .bool false, .int 181 0, .ref 42, .none, .none, .none, .none, .int 224 0, .int 17 0, sV "/claim/cut.py" 225] },
   { cls := .type "frame", data := .plain, slots := #[some (.ref 43), some (.ref 3), some (.ref 40), none, some (sV "clausemill.indexer" 194), none, some (.ref 0)] },
   tE,
   fE,
   { cls := .type "tuple", data := .seq #[sV "self" 234, sV "arity" 235, sV "codes" 236] },
   tE,
   fnC (meI 7 0) "BlockBuilder.__init__",
   hO50 P,
   hO51 P,
   tE,
   fE,
   { cls := .type "tuple", data := .seq #[sV "self" 243, sV "label" 244] },
   tE,
   fnC (meI 7 1) "BlockBuilder.fresh_label",
   hO57 P,
   hO58 P,
   tE,
   fE,
   { cls := .type "tuple", data := .seq #[sV "self" 251, sV "labels" 252, sV "rows" 253, sV "last" 254, sV "place" 255] },
   tE,
   fnC (meI 7 2) "BlockBuilder.chain_rows",
   hO64 P,
   hO65 P,
   tE,
   fE,
   { cls := .type "tuple", data := .seq #[sV "self" 262, sV "places" 263, sV "wanted" 264, sV "label" 265] },
   tE,
   fnC (meI 7 3) "BlockBuilder.chain",
   hO71 P,
   hO72 P,
   tE,
   fE,
   { cls := .type "tuple", data := .seq #[sV "self" 272, sV "places" 273, sV "cell_key" 274, sV "found" 275, sV "place" 276] },
   tE,
   fnC (meI 7 4) "BlockBuilder.matching_places",
   hO78 P,
   hO79 P,
   tE,
   fE,
   { cls := .type "tuple", data := .seq #[sV "self" 283, sV "places" 284, sV "found" 285, sV "place" 286] },
   tE,
   fnC (meI 7 5) "BlockBuilder.variable_places",
   hO85 P,
   hO86 P,
   tE,
   fE,
   { cls := .type "tuple", data := .seq #[sV "self" 293, sV "places" 294, sV "kind" 295, sV "pairs" 296, sV "seen" 297, sV "place" 298, sV "key" 299] },
   tE,
   fnC (meI 7 6) "BlockBuilder.table",
   hO92 P,
   hO93 P,
   tE,
   fE,
   { cls := .type "tuple", data := .seq #[sV "self" 306, sV "places" 307, sV "default" 308, sV "constants" 309, sV "structures" 310, sV "const_label" 311, sV "struct_label" 312, sV "list_label" 313] },
   tE,
   fnC (meI 7 7) "BlockBuilder.switch",
   hO99 P,
   hO100 P,
   tE,
   fE,
   { cls := .type "tuple", data := .seq #[sV "self" 320, sV "pair" 321, sV "row" 322, sV "place" 323] },
   tE,
   fnC (meI 7 8) "BlockBuilder.finish",
   hO106 P,
   hO107 P,
   { cls := .type "tuple", data := .seq #[sV "arity" 327, sV "chains" 328, sV "codes" 329, sV "known" 330, sV "next_label" 331, sV "rows" 332] },
   hO109 P,
   hO110 P,
   { cls := .type "getset_descriptor", data := .fields #[sV "__dict__" 334, .ref 110, .builtin "function.__dict__", .builtin "function.__dict__#set"] },
   { cls := .type "getset_descriptor", data := .fields #[sV "__weakref__" 336, .ref 110, .builtin "ExceptionGroup.__weakref__", .none] },
   { cls := .type "super", data := .fields #[.ref 110, .ref 110, .ref 110] },
   { cls := .type "builtin_function_or_method", data := .fields #[.builtin "object.__init_subclass__", .ref 110] },
   tE,
   fE,
   { cls := .type "tuple", data := .seq #[sV "codes" 344] },
   tE,
   fnC (stI 8) "small_block",
   hO120 P,
   hO121 P,
   tE,
   fE,
   { cls := .type "tuple", data := .seq #[sV "symbols" 351, sV "functor" 352, sV "codes" 353, sV "builder" 354, sV "row" 355] },
   tE,
   fnC (stI 9) "chain_block",
   hO127 P,
   hO128 P,
   tE,
   fE,
   { cls := .type "tuple", data := .seq #[sV "symbols" 362, sV "functor" 363, sV "codes" 364, sV "builder" 365] },
   tE,
   fnC (stI 10) "index_block",
   hO134 P,
   hO135 P,
   tE,
   fE,
   { cls := .type "tuple", data := .seq #[sV "codes" 372, sV "groups" 373, sV "run" 374, sV "place" 375] },
   tE,
   fnC (stI 11) "clause_groups",
   hO141 P,
   hO142 P,
   tE,
   fE,
   { cls := .type "tuple", data := .seq #[sV "symbols" 382, sV "functor" 383, sV "codes" 384, sV "builder" 385, sV "groups" 386, sV "labels" 387, sV "group" 388, sV "row" 389, sV "number" 390] },
   tE,
   fnC (stI 12) "group_block",
   hO148 P,
   hO149 P,
   tE,
   fE,
   tE,
   tE,
   fnC (stI 17) "fixed_atoms",
   hO155 P,
   hO156 P,
   tE,
   fE,
   tE,
   tE,
   fnC (stI 18) "fixed_functors",
   hO162 P,
   hO163 P,
   tE,
   { cls := .type "builtin_function_or_method", data := .fields #[.builtin "type.__prepare__", .type "type"] },
   { cls := .type "dict", data := .dict #[eT P "__module__" 421 (sV "clausemill.symbols" 394), eT P "__qualname__" 423 (sV "Symbols" 422), eT P "__firstlineno__" 425 (.int 170 424), eT P "__init__" 434 (.ref 177), eT P "atom" 444 (.ref 184), eT P "text" 452 (.ref 191), eT P "functor" 464 (.ref 198), eT P "func" 473 (.ref 205), eT P "name" 481 (.ref 212), eT P "arity" 489 (.ref 219), eT P "label" 498 (.ref 226), eT P "count" 505 (.ref 233), eT P "functor_count" 512 (.ref 240), eT P "known" 522 (.ref 247), eT P "__static_attributes__" 527 (.ref 248)] 15 },
   tE,
   { cls := .none, data := .fields #[.int 172 0, .int 4 0, .ref 176, .int 182 0, .int 4 0, .ref 183, .int 191 0, .int 4 0, .ref 190, .int 194 0, .int 4 0, .ref 197, .int 204 0, .int 4 0, .ref 204, .int 207 0, .int 4 0, .ref 211, .int 210 0, .int 4 0, .ref 218, .int 213 0, .int 4 0, .ref 225, .int 217 0, .int 4 0, .ref 232, .int 220 0, .int 4 0, .ref 239, .int 223 0, .int 4 0, .ref 246] },
   { cls := .type "code", data := .fields #[sV "Symbols" 416, sV "Symbols" 417, sV "/claim/cut.py" 418, .int 170 0, .int 0 0, .int 0 0, .int 0 0, .int 0 0, .ref 167, .bool false, .int 181 0, .ref 168, .none, .none, .none, .none, .int 419 0, .int 170 0, sV "/claim/cut.py" 420] },
   { cls := .type "frame", data := .plain, slots := #[some (.ref 169), some (.ref 3), some (.ref 166), none, some (sV "clausemill.symbols" 394), none, some (.ref 0)] },
   tE,
   fE,
   { cls := .type "tuple", data := .seq #[sV "self" 429, sV "text" 430, sV "row" 431] },
   tE,
   fnC (meI 19 0) "Symbols.__init__",
   hO176 P,
   hO177 P,
   tE,
   fE,
   { cls := .type "tuple", data := .seq #[sV "self" 438, sV "text" 439, sV "found" 440, sV "number" 441] },
   tE,
   fnC (meI 19 1) "Symbols.atom",
   hO183 P,
   hO184 P,
   tE,
   fE,
   { cls := .type "tuple", data := .seq #[sV "self" 448, sV "number" 449] },
   tE,
   fnC (meI 19 2) "Symbols.text",
   hO190 P,
   hO191 P,
   tE,
   fE,
   { cls := .type "tuple", data := .seq #[sV "self" 456, sV "atom" 457, sV "arity" 458, sV "key" 459, sV "found" 460, sV "number" 461] },
   tE,
   fnC (meI 19 3) "Symbols.functor",
   hO197 P,
   hO198 P,
   tE,
   fE,
   { cls := .type "tuple", data := .seq #[sV "self" 468, sV "text" 469, sV "arity" 470] },
   tE,
   fnC (meI 19 4) "Symbols.func",
   hO204 P,
   hO205 P,
   tE,
   fE,
   { cls := .type "tuple", data := .seq #[sV "self" 477, sV "functor" 478] },
   tE,
   fnC (meI 19 5) "Symbols.name",
   hO211 P,
   hO212 P,
   tE,
   fE,
   { cls := .type "tuple", data := .seq #[sV "self" 485, sV "functor" 486] },
   tE,
   fnC (meI 19 6) "Symbols.arity",
   hO218 P,
   hO219 P,
   tE,
   fE,
   { cls := .type "tuple", data := .seq #[sV "self" 493, sV "functor" 494, sV "row" 495] },
   tE,
   fnC (meI 19 7) "Symbols.label",
   hO225 P,
   hO226 P,
   tE,
   fE,
   { cls := .type "tuple", data := .seq #[sV "self" 502] },
   tE,
   fnC (meI 19 8) "Symbols.count",
   hO232 P,
   hO233 P,
   tE,
   fE,
   { cls := .type "tuple", data := .seq #[sV "self" 509] },
   tE,
   fnC (meI 19 9) "Symbols.functor_count",
   hO239 P,
   hO240 P,
   tE,
   fE,
   { cls := .type "tuple", data := .seq #[sV "self" 516, sV "text" 517, sV "arity" 518, sV "atom" 519] },
   tE,
   fnC (meI 19 10) "Symbols.known",
   hO246 P,
   hO247 P,
   { cls := .type "tuple", data := .seq #[sV "atom_numbers" 523, sV "functor_numbers" 524, sV "functors" 525, sV "texts" 526] },
   hO249 P,
   hO250 P,
   { cls := .type "getset_descriptor", data := .fields #[sV "__dict__" 528, .ref 250, .builtin "function.__dict__", .builtin "function.__dict__#set"] },
   { cls := .type "getset_descriptor", data := .fields #[sV "__weakref__" 530, .ref 250, .builtin "ExceptionGroup.__weakref__", .none] },
   { cls := .type "super", data := .fields #[.ref 250, .ref 250, .ref 250] },
   { cls := .type "builtin_function_or_method", data := .fields #[.builtin "object.__init_subclass__", .ref 250] },
   tE,
   { cls := .type "builtin_function_or_method", data := .fields #[.builtin "type.__prepare__", .type "type"] },
   { cls := .type "dict", data := .dict #[eT P "__module__" 548 (sV "clausemill.compiler" 539), eT P "__qualname__" 550 (sV "ClauseCode" 549), eT P "__firstlineno__" 552 (.int 231 551), eT P "__init__" 563 (.ref 268), eT P "__static_attributes__" 568 (.ref 269)] 5 },
   tE,
   { cls := .none, data := .fields #[.int 233 0, .int 4 0, .ref 267] },
   { cls := .type "code", data := .fields #[sV "ClauseCode" 543, sV "ClauseCode" 544, sV "/claim/cut.py" 545, .int 231 0, .int 0 0, .int 0 0, .int 0 0, .int 0 0, .ref 258, .bool false, .int 181 0, .ref 259, .none, .none, .none, .none, .int 546 0, .int 231 0, sV "/claim/cut.py" 547] },
   { cls := .type "frame", data := .plain, slots := #[some (.ref 260), some (.ref 3), some (.ref 257), none, some (sV "clausemill.compiler" 539), none, some (.ref 0)] },
   tE,
   fE,
   { cls := .type "tuple", data := .seq #[sV "self" 556, sV "functor" 557, sV "key" 558, sV "instrs" 559, sV "used" 560] },
   tE,
   fnC (meI 23 0) "ClauseCode.__init__",
   hO267 P,
   hO268 P,
   { cls := .type "tuple", data := .seq #[sV "functor" 564, sV "instrs" 565, sV "key" 566, sV "used" 567] },
   hO270 P,
   hO271 P,
   { cls := .type "getset_descriptor", data := .fields #[sV "__dict__" 569, .ref 271, .builtin "function.__dict__", .builtin "function.__dict__#set"] },
   { cls := .type "getset_descriptor", data := .fields #[sV "__weakref__" 571, .ref 271, .builtin "ExceptionGroup.__weakref__", .none] },
   { cls := .type "super", data := .fields #[.ref 271, .ref 271, .ref 271] },
   { cls := .type "builtin_function_or_method", data := .fields #[.builtin "object.__init_subclass__", .ref 271] },
   tE,
   fE,
   { cls := .type "tuple", data := .seq #[sV "script" 581, sV "row" 582, sV "cell" 583, sV "number" 584, sV "turn" 585] },
   tE,
   fnC (stI 25) "_law_row",
   hO281 P,
   hO282 P,
   tE,
   fE,
   { cls := .type "tuple", data := .seq #[sV "row" 592] },
   tE,
   fnC (stI 26) "_law_next",
   hO288 P,
   hO289 P,
   tE,
   fE,
   { cls := .type "tuple", data := .seq #[sV "row" 599, sV "kind" 600] },
   tE,
   fnC (stI 27) "_law_key",
   hO295 P,
   hO296 P,
   tE,
   fE,
   { cls := .type "tuple", data := .seq #[sV "key" 607, sV "other" 608] },
   tE,
   fnC (stI 28) "_law_matches",
   hO302 P,
   hO303 P,
   tE,
   fE,
   { cls := .type "tuple", data := .seq #[sV "ins" 615, sV "key" 616, sV "word" 617, sV "label" 618] },
   tE,
   fnC (stI 29) "_law_target",
   hO309 P,
   hO310 P,
   tE,
   fE,
   { cls := .type "tuple", data := .seq #[sV "block" 625, sV "many" 626, sV "wide" 627, sV "key" 628, sV "where" 629, sV "place" 630, sV "left" 631, sV "found" 632, sV "at" 633, sV "turn" 634, sV "ins" 635, sV "clause" 636, sV "goal" 637] },
   tE,
   fnC (stI 30) "_law_visits",
   hO316 P,
   hO317 P,
   tE,
   fE,
   fnC (stI 31) "law",
   hO321 P,
   hO322 P]
noncomputable def heapEnd (P : Params) : Heap := { objs := ⟨heapAll P⟩ }
/-- the top without its names' rows -/
noncomputable def viewP : Program := { lawP with main := { lawP.main with body := lawP.main.body.take 1 ++ ((lawP.main.body.drop 2).take 11 ++ ((lawP.main.body.drop 14).take 8 ++ ((lawP.main.body.drop 23).take 1 ++ lawP.main.body.drop 25))) } }
noncomputable def heapAs : List Addr := [3, 20, 21, 22, 23, 29, 30, 36, 37, 50, 51, 57, 58, 64, 65, 71, 72, 78, 79, 85, 86, 92, 93, 99, 100, 106, 107, 109, 110, 120, 121, 127, 128, 134, 135, 141, 142, 148, 149, 155, 156, 162, 163, 176, 177, 183, 184, 190, 191, 197, 198, 204, 205, 211, 212, 218, 219, 225, 226, 232, 233, 239, 240, 246, 247, 249, 250, 267, 268, 270, 271, 281, 282, 288, 289, 295, 296, 302, 303, 309, 310, 316, 317, 321, 322]
noncomputable abbrev lawXt : Shared → Bool := fun s => xlAt viewP [] s && recOk (RowW.records (OpenRow.toRowW PySem.Challenge.rw_no0161_01.row)) s
noncomputable abbrev lawH : Hook := kHook heapK heapAs fun _ => by kernel_rfl
/- the top's run, by the library's quick twins of its own functions; what is seen in the heap behind it; the objects -/
theorem law_heap : ∀ w : World, Option.map (fun s => (s.heap, s.gens)) (openEnds treeTable lawP w 3996) = some (heapEnd w.params, #[]) := fun w => by
  unfold openEnds fencedOpening topFrom
  rw [Fast.te14364793385576792824, Fast.te10274390034422433532, Fast.te1435165496053646825, Fast.te14289696077712309145, Fast.te14082659384304107361]
  kernel_rfl
theorem law_looks : ∀ (w : World) (d : Drawn) (k : Nat) (os : OsState), openSeen viewP [] (importedModules lawP.main.body) lawXt true ⟨heapEnd w.params, #[], d, k, os⟩ = openGood viewP [] := fun w d k os => by
  rw [Fast.te4187177175401517315]
  kernel_rfl
theorem law_objs : ∀ P : Params, heapAs.map (heapEnd P).get? = (heapK P).map fun p => some p.2 := fun P => by kernel_rfl
theorem law_left : LeftO lawP viewP [] lawXt (Hook.obs lawH) (Hook.val lawH) 3996 := fun w => by
  have a := law_heap w
  show Option.map (fun s => (openSeen viewP [] (importedModules lawP.main.body) lawXt true s, heapAs.map s.heap.get?)) (openEnds treeTable lawP w 3996) = some (openGood viewP [], (heapK w.params).map fun p => some p.2)
  generalize openEnds treeTable lawP w 3996 = r at a ⊢
  cases r with
  | none => cases a
  | some s =>
    have h := Prod.mk.inj (Option.some.inj a)
    obtain ⟨hp, gs, d, k, os⟩ := s
    obtain ⟨h1, h2⟩ := h
    dsimp only at h1 h2
    subst h1 h2
    exact congrArg some (Prod.ext (law_looks w d k os) (law_objs w.params))
end SHk
section SFw1
theorem ofString_inj {a b : String} : PySem.Str.ofString a = PySem.Str.ofString b ↔ a = b := by
  constructor
  · intro h
    rw [PySem.Str.ofString_eq_toList, PySem.Str.ofString_eq_toList] at h
    have h1 : (a.toList.map Char.toNat) = (b.toList.map Char.toNat) := by
      have := congrArg (fun s : PySem.Str => s.cps.toList) h
      simpa using this
    have h2 : a.toList = b.toList := by
      have hinj : Function.Injective Char.toNat := by
        intro x y hxy
        exact Char.ext (UInt32.toNat_inj.mp hxy)
      exact (List.map_inj_right (fun x y hxy => hinj hxy)).mp h1
    exact String.toList_inj.mp h2
  · rintro rfl; rfl
/-- abstract values: immutable data (none, bools, ints, texts, tuples of these) or a reference -/
inductive PV where
  | d (x : PyData)
  | r (a : Addr)
  | rng (a b : Int)
/-- abstract mutable objects -/
inductive MO where
  | list (xs : List PV)
  | inst (C dx : Addr)
  | ns (m : List (Str × PV))
  | dI (kvs : List (Int × PV))
  | dS (kvs : List (Str × PV))
  | dT (kvs : List (List Int × PV))
noncomputable abbrev Hp := Addr → Option MO
noncomputable def lkp (x : Str) : List (Str × PV) → Option PV
  | [] => none
  | (y, v) :: r => if x = y then some v else lkp x r
noncomputable def setL (x : Str) (v : PV) : List (Str × PV) → List (Str × PV)
  | [] => [(x, v)]
  | (y, u) :: r => if x = y then (y, v) :: r else (y, u) :: setL x v r
noncomputable def setH (σ : Hp) (a : Addr) (o : MO) : Hp := fun b => if b = a then some o else σ b
inductive All2 {α β : Type} (R : α → β → Prop) : List α → List β → Prop
  | nil : All2 R [] []
  | cons {a b as bs} : R a b → All2 R as bs → All2 R (a :: as) (b :: bs)
theorem All2.length {α β : Type} {R : α → β → Prop} {l : List α} {m : List β} (h : All2 R l m) : l.length = m.length := by
  induction h with
  | nil => rfl
  | cons _ _ ih => simp [ih]
theorem All2.mono {α β : Type} {R S : α → β → Prop} {l : List α} {m : List β} (h : All2 R l m) (k : ∀ a b, R a b → S a b) : All2 S l m := by
  induction h with
  | nil => exact .nil
  | cons a _ ih => exact .cons (k _ _ a) ih
theorem All2.append {α β : Type} {R : α → β → Prop} {l l' : List α} {m m' : List β} (h : All2 R l m) (h' : All2 R l' m') : All2 R (l ++ l') (m ++ m') := by
  induction h with
  | nil => exact h'
  | cons a _ ih => exact .cons a ih
theorem All2.get {α β : Type} {R : α → β → Prop} {l : List α} {m : List β} (h : All2 R l m) : ∀ {i : Nat} {b : β}, m[i]? = some b → ∃ a, l[i]? = some a ∧ R a b := by
  induction h with
  | nil => intro i b hb; simp at hb
  | cons a _ ih =>
    intro i b hb
    cases i with
    | zero => simp at hb; subst hb; exact ⟨_, by simp, a⟩
    | succ i => simp at hb; obtain ⟨x, hx, hr⟩ := ih hb; exact ⟨x, by simpa using hx, hr⟩
theorem All2.reverse {α β : Type} {R : α → β → Prop} {l : List α} {m : List β} (h : All2 R l m) : All2 R l.reverse m.reverse := by
  induction h with
  | nil => exact .nil
  | cons a _ ih => simpa using ih.append (.cons a .nil)
theorem All2.take {α β : Type} {R : α → β → Prop} {l : List α} {m : List β} (h : All2 R l m) : ∀ k, All2 R (l.take k) (m.take k) := by
  induction h with
  | nil => intro k; simp; exact .nil
  | cons a _ ih => intro k; cases k with
    | zero => simp; exact .nil
    | succ k => simpa using All2.cons a (ih k)
theorem All2.drop {α β : Type} {R : α → β → Prop} {l : List α} {m : List β} (h : All2 R l m) : ∀ k, All2 R (l.drop k) (m.drop k) := by
  induction h with
  | nil => intro k; simp; exact .nil
  | cons a t ih => intro k; cases k with
    | zero => simpa using All2.cons a t
    | succ k => simpa using ih k
theorem All2.set {α β : Type} {R : α → β → Prop} {l : List α} {m : List β} (h : All2 R l m) {a : α} {b : β} (r : R a b) : ∀ k, All2 R (l.set k a) (m.set k b) := by
  induction h with
  | nil => intro k; exact .nil
  | cons x t ih => intro k; cases k with
    | zero => exact .cons r t
    | succ k => exact .cons x (ih k)
noncomputable def PRep (h : Heap) (v : Value) : PV → Prop
  | .d x => Reads h v x []
  | .r a => v = .ref a
  | .rng x y => ∃ a t u z, v = .ref a ∧ IsRange h a x y 1 t u z
noncomputable def KRep {K : Type} (h : Heap) (p : K × Value) (q : K × PV) : Prop := p.1 = q.1 ∧ PRep h p.2 q.2
noncomputable def TRep (h : Heap) (p : List Int × Addr × Value) (q : List Int × PV) : Prop := p.1 = q.1 ∧ PRep h p.2.2 q.2
noncomputable def ORep (prog : Program) (w : World) (h : Heap) (a : Addr) : MO → Prop
  | .list xs => ∃ (vs : List Value) (n : Nat), PySem.IsL h a vs.toArray n ∧ All2 (PRep h) vs xs
  | .inst C dx => h.get? a = some (instObj C dx)
  | .ns m => ∃ es n, h.get? a = some (dictOf es n) ∧ All2 (fun (e : DictEntry) (q : Str × PV) => (∃ t, e.key = .str q.1 t) ∧ PRep h e.val q.2) es m
  | .dI kvs => ∃ vs, h.DictOf (intKind prog w) a vs ∧ All2 (KRep h) vs kvs
  | .dS kvs => ∃ vs, h.DictOf (strKind prog w) a vs ∧ All2 (KRep h) vs kvs
  | .dT kvs => ∃ vs, h.DictOfH (tupleKind (intKind prog w)) a vs ∧ All2 (TRep h) vs kvs
/-- tuples stay -/
noncomputable def Imm (o : Obj) : Prop := (o.cls = .type "tuple" ∧ ∃ vs n, o.data = .seq vs n) ∨ (o.cls = .type "range" ∧ ∃ vs, o.data = .fields vs)
noncomputable def TupKeep (h h' : Heap) : Prop := ∀ b o, h.get? b = some o → Imm o → h'.get? b = some o
theorem TupKeep.refl (h : Heap) : TupKeep h h := fun _ _ e _ => e
theorem TupKeep.trans {h h' h'' : Heap} (x : TupKeep h h') (y : TupKeep h' h'') : TupKeep h h'' := fun b o e c => y b o (x b o e c) c
theorem TupKeep.of_keep {h h' : Heap} (k : ∀ b o, h.get? b = some o → h'.get? b = some o) : TupKeep h h' := fun b o e _ => k b o e
mutual
theorem reads_tk {h h' : Heap} (k : TupKeep h h') : ∀ {v : Value} {d : PyData} {as : List Addr}, Reads h v d as → as = [] → Reads h' v d as
  | _, _, _, .none, _ => .none
  | _, _, _, .bool b, _ => .bool b
  | _, _, _, .int i t, _ => .int i t
  | _, _, _, .str x t, _ => .str x t
  | _, _, _, .list _ _ _ _, e => by cases e
  | _, _, _, .tuple ho hc hd r, e => .tuple (k _ _ ho (.inl ⟨hc, _, _, hd⟩)) hc hd (readsAll_tk k r e)
  | _, _, _, .dict _ _ _ _ _, e => by simp at e
theorem readsAll_tk {h h' : Heap} (k : TupKeep h h') : ∀ {vs : List Value} {ds : List PyData} {as : List Addr}, ReadsAll h vs ds as → as = [] → ReadsAll h' vs ds as
  | _, _, _, .nil, _ => .nil
  | _, _, _, .cons a r, e => by
    obtain ⟨e1, e2⟩ := List.append_eq_nil_iff.mp e
    subst e1; subst e2
    exact .cons (reads_tk k a rfl) (readsAll_tk k r rfl)
end
theorem PRep.tk {h h' : Heap} (k : TupKeep h h') {v : Value} {p : PV} (x : PRep h v p) : PRep h' v p := by
  cases p with
  | d y => exact reads_tk k x rfl
  | r a => exact x
  | rng a b => obtain ⟨r, t, u, z, e, ir⟩ := x; exact ⟨r, t, u, z, e, k _ _ ir (.inr ⟨rfl, _, rfl⟩)⟩
theorem all2_tk {h h' : Heap} (k : TupKeep h h') {vs : List Value} {xs : List PV} (x : All2 (PRep h) vs xs) : All2 (PRep h') vs xs := x.mono fun _ _ => PRep.tk k
theorem tupleKey_tk {prog : Program} {w : World} {h h' : Heap} (k : TupKeep h h') {ks : List Int} {a : Addr} (x : IsTupleKey (intKind prog w) h ks a) : IsTupleKey (intKind prog w) h' ks a :=
  let ⟨o, i, n, e, c, d, r⟩ := x; ⟨o, i, n, k _ _ e (.inl ⟨c, _, _, d⟩), c, d, r⟩
theorem ORep.tk {prog : Program} {w : World} {h h' : Heap} (k : TupKeep h h') {a : Addr} {o : MO} (ka : ∀ x, h.get? a = some x → h'.get? a = some x) (x : ORep prog w h a o) : ORep prog w h' a o := by
  cases o with
  | list xs => obtain ⟨vs, n, hl, r⟩ := x; exact ⟨vs, n, ka _ hl, all2_tk k r⟩
  | inst C dx => exact ka _ x
  | ns m => obtain ⟨es, n, hl, r⟩ := x; exact ⟨es, n, ka _ hl, r.mono fun _ _ ⟨a, b⟩ => ⟨a, b.tk k⟩⟩
  | dI kvs => obtain ⟨vs, hl, r⟩ := x; exact ⟨vs, hl.at ka, r.mono fun _ _ ⟨a, b⟩ => ⟨a, b.tk k⟩⟩
  | dS kvs => obtain ⟨vs, hl, r⟩ := x; exact ⟨vs, hl.at ka, r.mono fun _ _ ⟨a, b⟩ => ⟨a, b.tk k⟩⟩
  | dT kvs =>
    obtain ⟨vs, ⟨o, es, ep, ho, hc, hd, he, hk, hn⟩, r⟩ := x
    exact ⟨vs, ⟨o, es, ep, ka _ ho, hc, hd, he, fun y hy => tupleKey_tk k (hk y hy), hn⟩, r.mono fun _ _ ⟨a, b⟩ => ⟨a, b.tk k⟩⟩
/-- an object of the abstract heap stands there and is no tuple -/
theorem ORep.here {prog : Program} {w : World} {h : Heap} {a : Addr} {o : MO} (x : ORep prog w h a o) : ∃ ob, h.get? a = some ob ∧ ¬ Imm ob := by
  have no : ∀ {ob : Obj}, ob.cls ≠ .type "tuple" → ob.cls ≠ .type "range" → ¬ Imm ob := fun h1 h2 i => i.elim (fun x => h1 x.1) fun x => h2 x.1
  cases o with
  | list xs => obtain ⟨vs, n, hl, r⟩ := x; exact ⟨_, hl, no (by show Value.type "list" ≠ _; decide) (by show Value.type "list" ≠ _; decide)⟩
  | inst C dx => exact ⟨_, x, no (by intro h; cases h) (by intro h; cases h)⟩
  | ns m => obtain ⟨es, n, hl, r⟩ := x; exact ⟨_, hl, no (by show Value.type "dict" ≠ _; decide) (by show Value.type "dict" ≠ _; decide)⟩
  | dI kvs => obtain ⟨vs, ⟨ob, es, ep, e, c, _⟩, r⟩ := x; exact ⟨ob, e, no (by rw [c.1]; decide) (by rw [c.1]; decide)⟩
  | dS kvs => obtain ⟨vs, ⟨ob, es, ep, e, c, _⟩, r⟩ := x; exact ⟨ob, e, no (by rw [c.1]; decide) (by rw [c.1]; decide)⟩
  | dT kvs => obtain ⟨vs, ⟨ob, es, ep, e, c, _⟩, r⟩ := x; exact ⟨ob, e, no (by rw [c.1]; decide) (by rw [c.1]; decide)⟩
structure HRel (prog : Program) (w : World) (base : Heap) (σ : Hp) (h : Heap) : Prop where
  keep : ∀ b o, base.get? b = some o → h.get? b = some o
  rep : ∀ a mo, σ a = some mo → ORep prog w h a mo
  new : ∀ a mo, σ a = some mo → base.objs.size ≤ a
  size : base.objs.size ≤ h.objs.size
/-- what a run may have done: objects outside σ and outside F stand as they stood; what is new in σ is new -/
structure Step (F : Addr → Prop) (σ : Hp) (h : Heap) (σ' : Hp) (h' : Heap) : Prop where
  keep : ∀ a o, h.get? a = some o → σ a = none → ¬ F a → h'.get? a = some o
  new : ∀ a mo, σ' a = some mo → σ a = none → h.get? a = none
  off : ∀ a, F a → σ' a = none
theorem Step.refl {F : Addr → Prop} {σ : Hp} {h : Heap} (off : ∀ a, F a → σ a = none) : Step F σ h σ h := ⟨fun _ _ e _ _ => e, fun a mo e n => by (rw [n] at e; cases e), off⟩
theorem Step.trans {F : Addr → Prop} {σ σ' σ'' : Hp} {h h' h'' : Heap} (x : Step F σ h σ' h') (y : Step F σ' h' σ'' h'') : Step F σ h σ'' h'' where
  keep := fun a o e n f => by
    refine y.keep a o (x.keep a o e n f) ?_ f
    cases q : σ' a with
    | none => rfl
    | some mo => have := x.new a mo q n; rw [e] at this; cases this
  new := fun a mo e n => by
    have f : ¬ F a := fun f => by have := y.off a f; rw [e] at this; cases this
    cases q : σ' a with
    | some mo' => exact x.new a mo' q n
    | none =>
      cases r : h.get? a with
      | none => rfl
      | some o => have h1 := x.keep a o r n f; have h2 := y.new a mo e q; rw [h1] at h2; cases h2
  off := y.off
/-- a step whose σ stays and whose heap keeps all -/
theorem Step.keeps {F : Addr → Prop} {σ : Hp} {h h' : Heap} (off : ∀ a, F a → σ a = none) (k : ∀ b o, h.get? b = some o → h'.get? b = some o) : Step F σ h σ h' :=
  ⟨fun a o e _ _ => k a o e, fun a mo e n => by (rw [n] at e; cases e), off⟩
/-- an object of σ alone is changed -/
theorem Step.upd {F : Addr → Prop} {σ : Hp} {h h' : Heap} {a : Addr} {mo mo' : MO} (off : ∀ a, F a → σ a = none) (ha : σ a = some mo) (k : ∀ b o, b ≠ a → h.get? b = some o → h'.get? b = some o) : Step F σ h (setH σ a mo') h' where
  keep := fun b o e n _ => k b o (fun q => by rw [q, ha] at n; cases n) e
  new := fun b mo e n => by
    by_cases q : b = a
    · rw [q, ha] at n; cases n
    · simp only [setH, if_neg q] at e; rw [n] at e; cases e
  off := fun b f => by
    by_cases q : b = a
    · have := off b f; rw [q, ha] at this; cases this
    · simp only [setH, if_neg q]; exact off b f
/-- a new object -/
theorem Step.alloc {F : Addr → Prop} {σ : Hp} {h h' : Heap} {a : Addr} {mo' : MO} (off : ∀ a, F a → σ a = none) (hF : ¬ F a) (ha : h.get? a = none) (k : ∀ b o, h.get? b = some o → h'.get? b = some o) : Step F σ h (setH σ a mo') h' where
  keep := fun b o e _ _ => k b o e
  new := fun b mo e n => by
    by_cases q : b = a
    · rw [q]; exact ha
    · simp only [setH, if_neg q] at e; rw [n] at e; cases e
  off := fun b f => by
    by_cases q : b = a
    · exact absurd (q ▸ f) hF
    · simp only [setH, if_neg q]; exact off b f
theorem HRel.tk {prog : Program} {w : World} {base : Heap} {F : Addr → Prop} {σ σ' : Hp} {h h' : Heap} (R : HRel prog w base σ h) (S : Step F σ h σ' h')
    (hF : ∀ a o, F a → h.get? a = some o → ¬ Imm o) : TupKeep h h' := fun b o e c => by
  refine S.keep b o e ?_ fun f => hF b o f e c
  cases q : σ b with
  | none => rfl
  | some mo => obtain ⟨ob, e1, c1⟩ := (R.rep b mo q).here; rw [e] at e1; cases e1; exact absurd c c1
theorem HRel.fresh {prog : Program} {w : World} {base : Heap} {σ : Hp} {h : Heap} (R : HRel prog w base σ h) {a : Addr} (ha : h.get? a = none) : σ a = none := by
  cases q : σ a with
  | none => rfl
  | some mo => obtain ⟨ob, e1, _⟩ := (R.rep a mo q).here; rw [ha] at e1; cases e1
theorem get_size_none (h : Heap) {a : Addr} (ha : h.objs.size ≤ a) : h.get? a = none := by
  cases q : h.get? a with
  | none => rfl
  | some o => exact absurd (Heap.lt_size q) (Nat.not_lt.mpr ha)
theorem HRel.base_none {prog : Program} {w : World} {base : Heap} {σ : Hp} {h : Heap} (R : HRel prog w base σ h) {a : Addr} {mo : MO} (ha : σ a = some mo) : base.get? a = none := get_size_none _ (R.new a mo ha)
/-- the heap keeps all: the same σ stands -/
theorem HRel.keeps {prog : Program} {w : World} {base : Heap} {σ : Hp} {h h' : Heap} (R : HRel prog w base σ h) (k : ∀ b o, h.get? b = some o → h'.get? b = some o) (hs : base.objs.size ≤ h'.objs.size) : HRel prog w base σ h' :=
  ⟨fun b o e => k b o (R.keep b o e), fun a mo e => (R.rep a mo e).tk (TupKeep.of_keep k) fun x => k a x, R.new, hs⟩
theorem HRel.upd {prog : Program} {w : World} {base : Heap} {σ : Hp} {h h' : Heap} {a : Addr} {mo mo' : MO} (R : HRel prog w base σ h) (ha : σ a = some mo) (k : ∀ b o, b ≠ a → h.get? b = some o → h'.get? b = some o)
    (hs : base.objs.size ≤ h'.objs.size) (r : ORep prog w h' a mo') : HRel prog w base (setH σ a mo') h' where
  keep := fun b o e => k b o (fun q => by rw [q, R.base_none ha] at e; cases e) (R.keep b o e)
  rep := fun b m e => by
    by_cases q : b = a
    · subst q; simp only [setH, if_true] at e; cases e; exact r
    · simp only [setH, if_neg q] at e
      refine (R.rep b m e).tk (fun c o e1 c1 => k c o (fun z => ?_) e1) fun x => k b x q
      obtain ⟨ob, e2, c2⟩ := (R.rep a mo ha).here
      rw [z, e2] at e1; cases e1; exact c2 c1
  new := fun b m e => by
    by_cases q : b = a
    · subst q; exact R.new b mo ha
    · simp only [setH, if_neg q] at e; exact R.new b m e
  size := hs
theorem HRel.alloc {prog : Program} {w : World} {base : Heap} {σ : Hp} {h h' : Heap} {a : Addr} {mo' : MO} (R : HRel prog w base σ h) (k : ∀ b o, h.get? b = some o → h'.get? b = some o)
    (hn : base.objs.size ≤ a) (hs : base.objs.size ≤ h'.objs.size) (r : ORep prog w h' a mo') : HRel prog w base (setH σ a mo') h' where
  keep := fun b o e => k b o (R.keep b o e)
  rep := fun b m e => by
    by_cases q : b = a
    · subst q; simp only [setH, if_true] at e; cases e; exact r
    · simp only [setH, if_neg q] at e
      exact (R.rep b m e).tk (TupKeep.of_keep k) fun x => k b x
  new := fun b m e => by
    by_cases q : b = a
    · subst q; exact hn
    · simp only [setH, if_neg q] at e; exact R.new b m e
  size := hs
/-- less is known -/
noncomputable def Le (σ σ' : Hp) : Prop := ∀ a mo, σ a = some mo → σ' a = some mo
theorem Le.refl (σ : Hp) : Le σ σ := fun _ _ e => e
theorem HRel.le {prog : Program} {w : World} {base : Heap} {σ σ' : Hp} {h : Heap} (R : HRel prog w base σ' h) (l : Le σ σ') : HRel prog w base σ h :=
  ⟨R.keep, fun a mo e => R.rep a mo (l a mo e), fun a mo e => R.new a mo (l a mo e), R.size⟩
theorem Le.none {σ σ' : Hp} (l : Le σ σ') {a : Addr} (n : σ' a = none) : σ a = none := by
  cases q : σ a with
  | none => rfl
  | some mo => rw [l a mo q] at n; cases n
theorem Step.le_left {F : Addr → Prop} {σ₀ σ σ' : Hp} {h h' : Heap} (l : Le σ σ₀) (S : Step F σ h σ' h') : Step F σ₀ h σ' h' :=
  ⟨fun a o e n f => S.keep a o e (l.none n) f, fun a mo e n => S.new a mo e (l.none n), S.off⟩
theorem Step.le_right {F : Addr → Prop} {σ σ₁ σ' : Hp} {h h' : Heap} (S : Step F σ h σ' h') (l : Le σ₁ σ') : Step F σ h σ₁ h' :=
  ⟨S.keep, fun a mo e n => S.new a mo (l a mo e) n, fun a f => l.none (S.off a f)⟩
end SFw1
section SFw2
structure Gx where
  prog : Program
  w : World
  base : Heap
  K : Frag
  mg : Str → Option Value
  mb : Str → Option Value
structure Cx extends Gx where
  A : Around
  F : Addr → Prop
  env : Env
structure Gx.Ok (c : Gx) : Prop where
  X : c.K.In c.base
  g : c.base.Ns mainGlobals c.mg
  b : c.base.Ns builtinsNs c.mb
  lim : c.base.NoLimit
  boot : ∀ x : Str, x ≠ "__name__" → c.mb x = bootBuiltins x
  low : 2 < c.base.objs.size
structure OkA (n : Nat) (A : Around) : Prop where
  hh : A.handled = none
  depth : A.depth + n < recursionLimit
  units : A.units + 16 * n + 200 < cLine
structure Cx.Ok (c : Cx) (n : Nat) : Prop extends Gx.Ok c.toGx, OkA n c.A where
  kind : c.env.scope.kind = .function
  globals : c.env.globals = mainGlobals
  builtins : c.env.builtins = builtinsNs
  newL : c.base.objs.size ≤ c.env.locals
  FL : c.F c.env.locals
  isF : ∀ a, c.F a → a = c.env.locals ∨ ∃ x, c.env.cells.lookup x = some a
  inj : ∀ x y a, c.env.cells.lookup x = some a → c.env.cells.lookup y = some a → x = y
  newC : ∀ x a, c.env.cells.lookup x = some a → c.base.objs.size ≤ a
theorem OkA.le {A : Around} {n k : Nat} (o : OkA n A) (h : k ≤ n) : OkA k A :=
  ⟨o.hh, by have := o.depth; lia, by have := o.units; lia⟩
theorem Cx.Ok.le {c : Cx} {n k : Nat} (o : c.Ok n) (h : k ≤ n) : c.Ok k :=
  { o with toOkA := o.toOkA.le h }
noncomputable abbrev Loc := List (Str × PV)
structure FRel (c : Cx) (loc : Loc) (σ : Hp) (h : Heap) : Prop where
  H : HRel c.prog c.w c.base σ h
  ns : ∃ m, h.Ns c.env.locals m ∧ ∀ x pv, lkp x loc = some pv → c.env.kindOf x = some .local → ∃ v, m x = some v ∧ PRep h v pv
  cells : ∀ x pv, lkp x loc = some pv → (c.env.kindOf x = some .cell ∨ c.env.kindOf x = some .free) → ∃ a v, c.env.cells.lookup x = some a ∧ h.IsCell a (some v) ∧ PRep h v pv
  cellsAt : ∀ x a, c.env.cells.lookup x = some a → (∃ v, h.IsCell a v) ∧ σ a = none
  offF : ∀ a, c.F a → σ a = none
theorem FRel.isF {c : Cx} {n : Nat} {loc : Loc} {σ : Hp} {h : Heap} (O : c.Ok n) (f : FRel c loc σ h) : ∀ a o, c.F a → h.get? a = some o → ¬ Imm o := by
  intro a o fa e i
  rcases O.isF a fa with rfl | ⟨x, hx⟩
  · obtain ⟨m, ⟨o', es, ep, e', d', _⟩, _⟩ := f.ns
    rw [e] at e'; cases e'
    rcases i with ⟨_, _, _, d⟩ | ⟨_, _, d⟩ <;> (rw [d] at d'; cases d')
  · obtain ⟨⟨v, o', e', d'⟩, _⟩ := f.cellsAt x a hx
    rw [e] at e'; cases e'
    rcases i with ⟨_, _, _, d⟩ | ⟨_, _, d⟩ <;> (rw [d] at d'; cases d')
theorem FRel.tk {c : Cx} {n : Nat} {loc : Loc} {σ σ' : Hp} {h h' : Heap} (O : c.Ok n) (f : FRel c loc σ h) (S : Step c.F σ h σ' h') : TupKeep h h' := f.H.tk S (f.isF O)
noncomputable def NoE : Value → Shared → Prop := fun _ _ => False
noncomputable def Post (c : Cx) {α β : Type} (R : Heap → α → β → Prop) (Q : β → Loc → Hp → Prop) (σ : Hp) (s : Shared) (a : α) (s' : Shared) : Prop :=
  ∃ b loc' σ' h' tk', s' = { s with heap := h', toks := tk' } ∧ R h' a b ∧ Q b loc' σ' ∧ FRel c loc' σ' h' ∧ Step c.F σ s.heap σ' h'
noncomputable def Tr (c : Cx) {α β : Type} (t : Sem α) (R : Heap → α → β → Prop) (loc : Loc) (σ : Hp) (Q : β → Loc → Hp → Prop) : Prop :=
  ∀ s, FRel c loc σ s.heap → wpAny (model c.prog c.w) c.A t (Post c R Q σ s) NoE s
theorem Post.after {c : Cx} {α β : Type} {R : Heap → α → β → Prop} {Q : β → Loc → Hp → Prop} {σ σ₁ : Hp} {s : Shared} {h₁ : Heap} {tk₁ : Nat} {a : α} {s' : Shared}
    (S : Step c.F σ s.heap σ₁ h₁) (p : Post c R Q σ₁ { s with heap := h₁, toks := tk₁ } a s') : Post c R Q σ s a s' := by
  obtain ⟨b, loc', σ', h', tk', e, r, q, f, S'⟩ := p
  exact ⟨b, loc', σ', h', tk', e, r, q, f, S.trans S'⟩
section
variable {c : Cx} {α β : Type} {t : Sem α} {R : Heap → α → β → Prop} {loc : Loc} {σ : Hp} {Q : β → Loc → Hp → Prop}
theorem Tr.use (h : Tr c t R loc σ Q) {s : Shared} (f : FRel c loc σ s.heap) {P : α → Shared → Prop}
    (k : ∀ a b loc' σ' h' tk', R h' a b → Q b loc' σ' → FRel c loc' σ' h' → Step c.F σ s.heap σ' h' → P a { s with heap := h', toks := tk' }) :
    wpAny (model c.prog c.w) c.A t P NoE s :=
  wpAny_mono (h s f) (fun a s' ⟨b, loc', σ', h', tk', e, r, q, f', S⟩ => by subst e; exact k a b loc' σ' h' tk' r q f' S) fun _ _ x => x
/-- go on behind a step -/
theorem Tr.go (h : Tr c t R loc σ Q) {s : Shared} {h₁ : Heap} {tk₁ : Nat} {σ₀ : Hp} (f : FRel c loc σ h₁) (S : Step c.F σ₀ s.heap σ h₁) :
    wpAny (model c.prog c.w) c.A t (Post c R Q σ₀ s) NoE { s with heap := h₁, toks := tk₁ } :=
  wpAny_mono (h { s with heap := h₁, toks := tk₁ } f) (fun _ _ p => p.after S) fun _ _ x => x
theorem Tr.mono {Q' : β → Loc → Hp → Prop} (h : Tr c t R loc σ Q) (k : ∀ b l σ', Q b l σ' → Q' b l σ') : Tr c t R loc σ Q' := fun s f =>
  wpAny_mono (h s f) (fun _ _ ⟨b, loc', σ', h', tk', e, r, q, f', S⟩ => ⟨b, loc', σ', h', tk', e, r, k _ _ _ q, f', S⟩) fun _ _ x => x
end
/-- an end where nothing of the heap was changed but the tokens -/
theorem Post.same {c : Cx} {α β : Type} {R : Heap → α → β → Prop} {Q : β → Loc → Hp → Prop} {loc : Loc} {σ : Hp} {s : Shared} {a : α} {b : β} {tk : Nat} (f : FRel c loc σ s.heap) (r : R s.heap a b) (q : Q b loc σ) :
    Post c R Q σ s a { s with toks := tk } := ⟨b, loc, σ, s.heap, tk, rfl, r, q, f, .refl f.offF⟩
theorem Post.same0 {c : Cx} {α β : Type} {R : Heap → α → β → Prop} {Q : β → Loc → Hp → Prop} {loc : Loc} {σ : Hp} {s : Shared} {a : α} {b : β} (f : FRel c loc σ s.heap) (r : R s.heap a b) (q : Q b loc σ) :
    Post c R Q σ s a s := Post.same (tk := s.toks) f r q
/-- the frame's relation lives on where all objects are kept -/
theorem FRel.keeps {c : Cx} {n : Nat} {loc : Loc} {σ : Hp} {h h' : Heap} (O : c.Ok n) (f : FRel c loc σ h) (k : ∀ b o, h.get? b = some o → h'.get? b = some o) : FRel c loc σ h' where
  H := f.H.keeps k (by
    obtain ⟨m, hn, _⟩ := f.ns
    exact Nat.le_of_lt (Nat.lt_of_le_of_lt O.newL (hn.keeps k).lt))
  ns := let ⟨m, hn, q⟩ := f.ns; ⟨m, hn.keeps k, fun x pv e kd => let ⟨v, a, b⟩ := q x pv e kd; ⟨v, a, b.tk (TupKeep.of_keep k)⟩⟩
  cells := fun x pv e kd => let ⟨a, v, l, ic, r⟩ := f.cells x pv e kd; ⟨a, v, l, ic.keeps k, r.tk (TupKeep.of_keep k)⟩
  cellsAt := fun x a e => let ⟨⟨v, ic⟩, n⟩ := f.cellsAt x a e; ⟨⟨v, ic.keeps k⟩, n⟩
  offF := f.offF
theorem FRel.cells_off {c : Cx} {loc : Loc} {σ : Hp} {h : Heap} (f : FRel c loc σ h) {x : Str} {a b : Addr} {mo : MO} (hx : c.env.cells.lookup x = some a) (hb : σ b = some mo) : a ≠ b := by
  rintro rfl
  have := (f.cellsAt x a hx).2
  rw [hb] at this; cases this
theorem FRel.locals_off {c : Cx} {n : Nat} {loc : Loc} {σ : Hp} {h : Heap} (O : c.Ok n) (f : FRel c loc σ h) {b : Addr} {mo : MO} (hb : σ b = some mo) : c.env.locals ≠ b := by
  rintro rfl
  have := f.offF _ O.FL
  rw [hb] at this; cases this
/-- an object of σ is changed -/
theorem FRel.upd {c : Cx} {n : Nat} {loc : Loc} {σ : Hp} {h h' : Heap} {a : Addr} {mo mo' : MO} (O : c.Ok n) (f : FRel c loc σ h) (ha : σ a = some mo) (k : ∀ b o, b ≠ a → h.get? b = some o → h'.get? b = some o)
    (r : ORep c.prog c.w h' a mo') : FRel c loc (setH σ a mo') h' := by
  have tk : TupKeep h h' := fun b o e c1 => k b o (fun z => by
    obtain ⟨ob, e2, c2⟩ := (f.H.rep a mo ha).here
    rw [z, e2] at e; cases e; exact c2 c1) e
  have hL := f.locals_off O ha
  obtain ⟨m, hn, q⟩ := f.ns
  have hn' : h'.Ns c.env.locals m := hn.at' fun o e => k _ o hL e
  refine ⟨f.H.upd ha k (Nat.le_of_lt (Nat.lt_of_le_of_lt O.newL hn'.lt)) r, ⟨m, hn', fun x pv e kd => ?_⟩, fun x pv e kd => ?_, fun x b e => ?_, fun b fb => ?_⟩
  · obtain ⟨v, e1, r1⟩ := q x pv e kd; exact ⟨v, e1, r1.tk tk⟩
  · obtain ⟨b, v, l, ⟨o, ho, hd⟩, r1⟩ := f.cells x pv e kd
    exact ⟨b, v, l, ⟨o, k b o (f.cells_off l ha) ho, hd⟩, r1.tk tk⟩
  · obtain ⟨⟨v, o, ho, hd⟩, n1⟩ := f.cellsAt x b e
    refine ⟨⟨v, o, k b o (f.cells_off e ha) ho, hd⟩, ?_⟩
    simp only [setH, if_neg (f.cells_off e ha)]; exact n1
  · have : b ≠ a := by rintro rfl; have := f.offF _ fb; rw [ha] at this; cases this
    simp only [setH, if_neg this]; exact f.offF b fb
/-- a new object -/
theorem FRel.alloc {c : Cx} {n : Nat} {loc : Loc} {σ : Hp} {h h' : Heap} {a : Addr} {mo' : MO} (O : c.Ok n) (f : FRel c loc σ h) (ha : h.objs.size ≤ a) (k : ∀ b o, h.get? b = some o → h'.get? b = some o)
    (r : ORep c.prog c.w h' a mo') : FRel c loc (setH σ a mo') h' := by
  have g := f.keeps O k
  have ha' : h.get? a = none := get_size_none _ ha
  obtain ⟨m, hn, q⟩ := f.ns
  refine ⟨f.H.alloc k (Nat.le_trans f.H.size ha) (Nat.le_of_lt (Nat.lt_of_le_of_lt O.newL (hn.keeps k).lt)) r, g.ns, g.cells, fun x b e => ⟨(g.cellsAt x b e).1, ?_⟩, fun b fb => ?_⟩
  · obtain ⟨⟨v, o, ho, hd⟩, n1⟩ := f.cellsAt x b e
    have : b ≠ a := by rintro rfl; rw [ha'] at ho; cases ho
    simp only [setH, if_neg this]; exact n1
  · have : b ≠ a := by
      rintro rfl
      rcases O.isF b fb with rfl | ⟨x, hx⟩
      · exact Nat.lt_irrefl _ (Nat.lt_of_lt_of_le hn.lt ha)
      · obtain ⟨⟨v, o, ho, hd⟩, n1⟩ := f.cellsAt x b hx
        rw [ha'] at ho; cases ho
    simp only [setH, if_neg this]; exact f.offF b fb
theorem FRel.notF {c : Cx} {n : Nat} {loc : Loc} {σ : Hp} {h : Heap} {a : Addr} (O : c.Ok n) (f : FRel c loc σ h) (ha : h.objs.size ≤ a) : ¬ c.F a := by
  intro fa
  rcases O.isF a fa with rfl | ⟨x, hx⟩
  · obtain ⟨m, hn, q⟩ := f.ns
    exact Nat.lt_irrefl _ (Nat.lt_of_lt_of_le hn.lt ha)
  · obtain ⟨⟨v, o, ho, hd⟩, n1⟩ := f.cellsAt x a hx
    exact Nat.lt_irrefl _ (Nat.lt_of_lt_of_le (Heap.lt_size ho) ha)
/-- weaken: fewer names, fewer objects -/
noncomputable def LocLe (l l' : Loc) : Prop := ∀ x pv, lkp x l = some pv → lkp x l' = some pv
theorem FRel.le {c : Cx} {loc loc' : Loc} {σ σ' : Hp} {h : Heap} (f : FRel c loc' σ' h) (hl : LocLe loc loc') (hσ : Le σ σ') : FRel c loc σ h :=
  ⟨f.H.le hσ, let ⟨m, hn, q⟩ := f.ns; ⟨m, hn, fun x pv e => q x pv (hl x pv e)⟩, fun x pv e => f.cells x pv (hl x pv e), fun x a e => ⟨(f.cellsAt x a e).1, hσ.none (f.cellsAt x a e).2⟩, fun a fa => hσ.none (f.offF a fa)⟩
section
variable {c : Cx} {α β : Type} {t : Sem α} {R : Heap → α → β → Prop} {loc : Loc} {σ : Hp} {Q : β → Loc → Hp → Prop}
theorem Tr.weak {loc' : Loc} {σ' : Hp} (hl : LocLe loc' loc) (hσ : Le σ' σ) (h : Tr c t R loc' σ' Q) : Tr c t R loc σ Q := fun s f => by
  refine wpAny_mono (h s (f.le hl hσ)) (fun _ _ ⟨b, loc', σ', h', tk', e, r, q, f', S⟩ => ⟨b, loc', σ', h', tk', e, r, q, f', S.le_left hσ⟩) fun _ _ x => x
end
/-- a name is stored (a local one) -/
theorem lkp_setL {x y : Str} {v : PV} : ∀ l : Loc, lkp y (setL x v l) = if y = x then some v else lkp y l
  | [] => by simp only [setL, lkp]
  | (z, u) :: r => by
    simp only [setL]
    by_cases h : x = z
    · subst h; simp only [if_true, lkp]; split <;> rfl
    · simp only [if_neg h, lkp, lkp_setL r]
      by_cases h2 : y = z
      · have h3 : ¬ y = x := fun e => h (e.symm.trans h2)
        simp only [if_pos h2, if_neg h3]
      · simp only [if_neg h2]
theorem FRel.store {c : Cx} {n : Nat} {loc : Loc} {σ : Hp} {h h' : Heap} {x : Str} {v : Value} {pv : PV} {m : Str → Option Value} (O : c.Ok n) (f : FRel c loc σ h) (hk : c.env.kindOf x = some .local)
    (hm : h.Ns c.env.locals m) (r : PRep h v pv) (hn : h'.Ns c.env.locals fun y => if y = x then some v else m y) (hs : Heap.SameBut c.env.locals h h') : FRel c (setL x pv loc) σ h' ∧ Step c.F σ h σ h' := by
  have S : Step c.F σ h σ h' := ⟨fun a o e n1 f1 => (hs.2 a (fun z => f1 (z ▸ O.FL))).trans e, fun a mo e n1 => by (rw [n1] at e; cases e), f.offF⟩
  have tk := f.tk O S
  obtain ⟨m', hm', q⟩ := f.ns
  have mm : m' = m := by
    obtain ⟨o, es, ep, e1, d1, _, f1⟩ := hm
    obtain ⟨o', es', ep', e2, d2, _, f2⟩ := hm'
    rw [e1] at e2; cases e2; rw [d1] at d2; cases d2
    funext y; rw [← f1, ← f2]
  subst mm
  refine ⟨⟨⟨fun b o e => (hs.2 b (fun z => ?_)).trans (f.H.keep b o e), fun a mo e => (f.H.rep a mo e).tk tk fun o e' => (hs.2 a (Ne.symm (f.locals_off O e))).trans e', f.H.new, by rw [hs.1]; exact f.H.size⟩,
    ⟨_, hn, fun y pv' e kd => ?_⟩, fun y pv' e kd => ?_, fun y a e => ?_, f.offF⟩, S⟩
  · have := Heap.lt_size e; rw [z] at this; exact absurd this (Nat.not_lt.mpr O.newL)
  · rw [lkp_setL] at e
    by_cases hy : y = x
    · rw [if_pos hy] at e; cases e; exact ⟨v, by simp [hy], r.tk tk⟩
    · rw [if_neg hy] at e
      obtain ⟨v', e1, r1⟩ := q y pv' e kd
      exact ⟨v', by simp [hy, e1], r1.tk tk⟩
  · rw [lkp_setL] at e
    by_cases hy : y = x
    · subst hy; rcases kd with kd | kd <;> (rw [hk] at kd; cases kd)
    · rw [if_neg hy] at e
      obtain ⟨a, v', l, ⟨o, ho, hd⟩, r1⟩ := f.cells y pv' e kd
      refine ⟨a, v', l, ⟨o, (hs.2 a ?_).trans ho, hd⟩, r1.tk tk⟩
      rintro rfl
      obtain ⟨o', es', ep', e2, d2, _, f2⟩ := hm
      rw [ho] at e2; cases e2; rw [hd] at d2; cases d2
  · obtain ⟨⟨v', o, ho, hd⟩, n1⟩ := f.cellsAt y a e
    refine ⟨⟨v', o, (hs.2 a ?_).trans ho, hd⟩, n1⟩
    rintro rfl
    obtain ⟨o', es', ep', e2, d2, _, f2⟩ := hm
    rw [ho] at e2; cases e2; rw [hd] at d2; cases d2
/-- a cell of the frame's own is stored -/
theorem FRel.storeC {c : Cx} {n : Nat} {loc : Loc} {σ : Hp} {h h' : Heap} {x : Str} {v : Value} {pv : PV} {a : Addr} (O : c.Ok n) (f : FRel c loc σ h) (hk : c.env.kindOf x = some .cell) (hx : c.env.cells.lookup x = some a) (fa : c.F a)
    (r : PRep h v pv) (hn : h'.IsCell a (some v)) (hs : Heap.SameBut a h h') : FRel c (setL x pv loc) σ h' ∧ Step c.F σ h σ h' := by
  have S : Step c.F σ h σ h' := ⟨fun b o e n1 f1 => (hs.2 b (fun z => f1 (z ▸ fa))).trans e, fun a mo e n1 => by (rw [n1] at e; cases e), f.offF⟩
  have tk := f.tk O S
  obtain ⟨m, hm, q⟩ := f.ns
  obtain ⟨⟨v₀, o₀, ho₀, hd₀⟩, n₀⟩ := f.cellsAt x a hx
  have hL : c.env.locals ≠ a := by
    rintro rfl
    obtain ⟨o', es', ep', e2, d2, _, f2⟩ := hm
    rw [ho₀] at e2; cases e2; rw [hd₀] at d2; cases d2
  refine ⟨⟨⟨fun b o e => (hs.2 b (fun z => ?_)).trans (f.H.keep b o e), fun b mo e => (f.H.rep b mo e).tk tk fun o e' => (hs.2 b (Ne.symm (f.cells_off hx e))).trans e', f.H.new, by rw [hs.1]; exact f.H.size⟩,
    ⟨m, hm.sameBut hs hL, fun y pv' e kd => ?_⟩, fun y pv' e kd => ?_, fun y b e => ?_, f.offF⟩, S⟩
  · have := Heap.lt_size e; rw [z] at this; exact absurd this (Nat.not_lt.mpr (O.newC x a hx))
  · rw [lkp_setL] at e
    by_cases hy : y = x
    · subst hy; rw [hk] at kd; cases kd
    · rw [if_neg hy] at e
      obtain ⟨v', e1, r1⟩ := q y pv' e kd
      exact ⟨v', e1, r1.tk tk⟩
  · rw [lkp_setL] at e
    by_cases hy : y = x
    · subst hy; rw [if_pos rfl] at e; cases e; exact ⟨a, v, hx, hn, r.tk tk⟩
    · rw [if_neg hy] at e
      obtain ⟨b, v', l, ⟨o, ho, hd⟩, r1⟩ := f.cells y pv' e kd
      exact ⟨b, v', l, ⟨o, (hs.2 b (fun z => hy (O.inj y x a (z ▸ l) hx))).trans ho, hd⟩, r1.tk tk⟩
  · obtain ⟨⟨v', o, ho, hd⟩, n1⟩ := f.cellsAt y b e
    by_cases hb : b = a
    · subst hb; exact ⟨⟨_, hn⟩, n1⟩
    · exact ⟨⟨v', o, (hs.2 b hb).trans ho, hd⟩, n1⟩
noncomputable def Ev (c : Cx) (e : Expr) (loc : Loc) (σ : Hp) (Q : PV → Loc → Hp → Prop) : Prop := Tr c (eval e c.env) PRep loc σ Q
noncomputable def Evs (c : Cx) (pos : Pos) (es : List Expr) (loc : Loc) (σ : Hp) (Q : List PV → Loc → Hp → Prop) : Prop := Tr c (spliced (backTo pos (starEach es c.env))) (fun h => All2 (PRep h)) loc σ Q
noncomputable def IsT (c : Cx) (e : Expr) (loc : Loc) (σ : Hp) (Q : Bool → Loc → Hp → Prop) : Prop := Tr c (isTrue e c.env (eval e c.env)) (fun _ a b => a = b) loc σ Q
inductive AF where
  | next | brk | cont
  | ret (v : PV)
noncomputable def FlRep (h : Heap) : Flow → AF → Prop
  | .next, .next => True
  | .brk, .brk => True
  | .cont, .cont => True
  | .ret v, .ret pv => PRep h v pv
  | _, _ => False
noncomputable def Ex (c : Cx) (ss : List Stmt) (loc : Loc) (σ : Hp) (Q : AF → Loc → Hp → Prop) : Prop := Tr c (execs ss c.env) FlRep loc σ Q
noncomputable def Ex1 (c : Cx) (st : Stmt) (loc : Loc) (σ : Hp) (Q : AF → Loc → Hp → Prop) : Prop := Tr c (exec st c.env) FlRep loc σ Q
/-- an operation on values in hand -/
noncomputable def Op1 (c : Cx) {α β : Type} (t : Value → Sem α) (R : Heap → α → β → Prop) (x : PV) (loc : Loc) (σ : Hp) (Q : β → Loc → Hp → Prop) : Prop :=
  ∀ s u, FRel c loc σ s.heap → PRep s.heap u x → wpAny (model c.prog c.w) c.A (t u) (Post c R Q σ s) NoE s
noncomputable def Op2 (c : Cx) {α β : Type} (t : Value → Value → Sem α) (R : Heap → α → β → Prop) (x y : PV) (loc : Loc) (σ : Hp) (Q : β → Loc → Hp → Prop) : Prop :=
  ∀ s u v, FRel c loc σ s.heap → PRep s.heap u x → PRep s.heap v y → wpAny (model c.prog c.w) c.A (t u v) (Post c R Q σ s) NoE s
noncomputable def Op3 (c : Cx) {α β : Type} (t : Value → Value → Value → Sem α) (R : Heap → α → β → Prop) (x y z : PV) (loc : Loc) (σ : Hp) (Q : β → Loc → Hp → Prop) : Prop :=
  ∀ s u v w, FRel c loc σ s.heap → PRep s.heap u x → PRep s.heap v y → PRep s.heap w z → wpAny (model c.prog c.w) c.A (t u v w) (Post c R Q σ s) NoE s
end SFw2
section SFw3
theorem mk_int (h : Heap) (i : Int) (t : Tok) : PRep h (.int i t) (.d (.int i)) := Reads.int i t
theorem mk_str (h : Heap) (i : Str) (t : Tok) : PRep h (.str i t) (.d (.str i)) := Reads.str i t
theorem mk_bool (h : Heap) (b : Bool) : PRep h (.bool b) (.d (.bool b)) := Reads.bool b
theorem mk_none (h : Heap) : PRep h .none (.d .none) := Reads.none
theorem mk_ref (h : Heap) (a : Addr) : PRep h (.ref a) (.r a) := rfl
theorem prep_int {h : Heap} {v : Value} {i : Int} (x : PRep h v (.d (.int i))) : ∃ t, v = .int i t := by
  cases (show Reads h v (.int i) [] from x) with | int _ t => exact ⟨t, rfl⟩
theorem prep_str {h : Heap} {v : Value} {i : Str} (x : PRep h v (.d (.str i))) : ∃ t, v = .str i t := by
  cases (show Reads h v (.str i) [] from x) with | str _ t => exact ⟨t, rfl⟩
theorem prep_bool {h : Heap} {v : Value} {b : Bool} (x : PRep h v (.d (.bool b))) : v = .bool b := by
  cases (show Reads h v (.bool b) [] from x); rfl
theorem prep_none {h : Heap} {v : Value} (x : PRep h v (.d .none)) : v = .none := by
  cases (show Reads h v .none [] from x); rfl
section
variable {c : Cx} {n : Nat} {loc : Loc} {σ : Hp}
/- constants -/
theorem Ev_int {i : Int} {k pos} {Q} (h : Q (.d (.int i)) loc σ) : Ev c (.Constant (.int i) k pos) loc σ Q := fun s f => wpAny_Constant_int (.same f (mk_int _ i _) h)
theorem Ev_str {x : Str} {k pos} {Q} (h : Q (.d (.str x)) loc σ) : Ev c (.Constant (.str x) k pos) loc σ Q := fun s f => wpAny_Constant_str (.same f (mk_str _ x _) h)
theorem Ev_bool {b : Bool} {k pos} {Q} (h : Q (.d (.bool b)) loc σ) : Ev c (.Constant (.bool b) k pos) loc σ Q := fun s f => wpAny_Constant_bool (.same0 f (mk_bool _ b) h)
theorem Ev_none {k pos} {Q} (h : Q (.d .none) loc σ) : Ev c (.Constant .none k pos) loc σ Q := fun s f => wpAny_Constant_none (.same0 f (mk_none _) h)
/- names -/
theorem Ev_local (O : c.Ok n) {x : Str} {pos} {pv : PV} {Q} (hv : lkp x loc = some pv) (hk : c.env.kindOf x = some .local) (h : Q pv loc σ) (hd : (x == ("__debug__" : Str)) = false := by decide +kernel) :
    Ev c (.Name x pos) loc σ Q := fun s f => by
  obtain ⟨m, hn, q⟩ := f.ns
  obtain ⟨v, e, r⟩ := q x pv hv hk
  exact wpAny_Name (wpAny_loadName_local O.kind hk hn e (.same0 f r h)) hd
theorem Ev_cell (O : c.Ok n) {x : Str} {pos} {pv : PV} {Q} (hv : lkp x loc = some pv) (hk : c.env.kindOf x = some .cell) (h : Q pv loc σ) (hd : (x == ("__debug__" : Str)) = false := by decide +kernel) :
    Ev c (.Name x pos) loc σ Q := fun s f => by
  obtain ⟨a, v, l, ic, r⟩ := f.cells x pv hv (.inl hk)
  exact wpAny_Name (wpAny_loadName_cell O.kind hk l ic (.same0 f r h)) hd
theorem raw_global (O : c.Ok n) {x : Str} {pos} {v : Value} {Q : Value → Shared → Prop} {E} {s : Shared} (f : FRel c loc σ s.heap) (hk : c.env.kindOf x = some .globalImplicit) (e : nsIn c.K mainGlobals x = some (some v)) (h : Q v s)
    (hd : (x == ("__debug__" : Str)) = false := by decide +kernel) : wpAny (model c.prog c.w) c.A (eval (.Name x pos) c.env) Q E s :=
  Name_function_global O.kind hk (loadGlobal_global (O.globals ▸ O.g.keeps f.H.keep) (mg_of O.X O.g e) h) hd
theorem raw_builtin (O : c.Ok n) {x : Str} {pos} {v : Value} {Q : Value → Shared → Prop} {E} {s : Shared} (f : FRel c loc σ s.heap) (hk : c.env.kindOf x = some .globalImplicit) (e : nsIn c.K mainGlobals x = some none) (hv : bootBuiltins x = some v) (h : Q v s)
    (hd : (x == ("__debug__" : Str)) = false := by decide +kernel) (hm : x ≠ "__name__" := by decide +kernel) : wpAny (model c.prog c.w) c.A (eval (.Name x pos) c.env) Q E s :=
  Name_function_global O.kind hk (loadGlobal_builtin (O.globals ▸ O.g.keeps f.H.keep) (mg_none_of O.X O.g e) (O.builtins ▸ O.b.keeps f.H.keep) ((O.boot x hm).trans hv) h) hd
theorem Ev_global (O : c.Ok n) {x : Str} {pos} {v : Value} {pv : PV} {Q} (hk : c.env.kindOf x = some .globalImplicit) (e : nsIn c.K mainGlobals x = some (some v)) (r : PRep c.base v pv) (h : Q pv loc σ)
    (hd : (x == ("__debug__" : Str)) = false := by decide +kernel) : Ev c (.Name x pos) loc σ Q := fun s f =>
  raw_global O f hk e (.same0 f (r.tk (TupKeep.of_keep f.H.keep)) h) hd
/- operators -/
theorem Ev_BinOp (O : c.Ok n) {l r : Expr} {op : Operator} {pos} {Q}
    (h : Ev c l loc σ fun x l₁ σ₁ => Ev c r l₁ σ₁ fun y l₂ σ₂ => Op2 c (binaryOp op) PRep x y l₂ σ₂ Q) : Ev c (.BinOp l op r pos) loc σ Q := fun s f =>
  wpAny_BinOp (h.use f fun u x l₁ σ₁ h₁ tk₁ ru q f₁ S₁ => q.use f₁ fun v y l₂ σ₂ h₂ tk₂ rv q₂ f₂ S₂ =>
    wpAny_mono (q₂ ⟨h₂, s.gens, s.drawn, tk₂, s.os⟩ u v f₂ (ru.tk (f₁.tk O S₂)) rv) (fun _ _ p => p.after (s := s) (S₁.trans S₂)) fun _ _ x => x)
theorem Ev_Compare1 (O : c.Ok n) {l r : Expr} {op : CmpOp} {pos} {Q}
    (h : Ev c l loc σ fun x l₁ σ₁ => Ev c r l₁ σ₁ fun y l₂ σ₂ => Op2 c (compareOp op) PRep x y l₂ σ₂ Q) (hm : behindInMarks op r = false := by with_unfolding_all rfl) : Ev c (.Compare l [op] [r] pos) loc σ Q := fun s f =>
  wpAny_Compare1 (h.use f fun u x l₁ σ₁ h₁ tk₁ ru q f₁ S₁ => q.use f₁ fun v y l₂ σ₂ h₂ tk₂ rv q₂ f₂ S₂ =>
    wpAny_mono (q₂ ⟨h₂, s.gens, s.drawn, tk₂, s.os⟩ u v f₂ (ru.tk (f₁.tk O S₂)) rv) (fun _ _ p => p.after (s := s) (S₁.trans S₂)) fun _ _ x => x) hm
theorem Ev_Unary {x : Expr} {op : UnaryOp} {pos} {Q} (h : Ev c x loc σ fun y l₁ σ₁ => Op1 c (unaryOp op) PRep y l₁ σ₁ Q) : Ev c (.UnaryOp op x pos) loc σ Q := fun s f =>
  wpAny_UnaryOp (h.use f fun u x l₁ σ₁ h₁ tk₁ ru q f₁ S₁ => wpAny_mono (q ⟨h₁, s.gens, s.drawn, tk₁, s.os⟩ u f₁ ru) (fun _ _ p => p.after (s := s) S₁) fun _ _ x => x)
theorem Ev_IfExp {t b o : Expr} {pos} {Q} (h : IsT c t loc σ fun x l₁ σ₁ => if x then Ev c b l₁ σ₁ Q else Ev c o l₁ σ₁ Q) : Ev c (.IfExp t b o pos) loc σ Q := fun s f =>
  wpAny_IfExp (h.use f fun u x l₁ σ₁ h₁ tk₁ ru q f₁ S₁ => by
    subst ru
    cases u
    · exact Tr.go (show Ev c o l₁ σ₁ Q from q) f₁ S₁
    · exact Tr.go (show Ev c b l₁ σ₁ Q from q) f₁ S₁)
/- tests -/
theorem IsT_plain {e : Expr} {Q} (h : Ev c e loc σ fun v l₁ σ₁ => ∃ b, v = .d (.bool b) ∧ Q b l₁ σ₁)
    (he : isTrue e c.env (eval e c.env) = (do let v ← eval e c.env; standAt e.pos; holding [v] (truthy v)) := by rfl) : IsT c e loc σ Q := fun s f =>
  isTrue_plain (h.use f fun u x l₁ σ₁ h₁ tk₁ ru q f₁ S₁ => by
    obtain ⟨b, rfl, q⟩ := q
    obtain rfl := prep_bool ru
    exact wpAny_truthy_bool ⟨b, l₁, σ₁, h₁, tk₁, rfl, rfl, q, f₁, S₁⟩) he
theorem IsT_Compare1 (O : c.Ok n) {l r : Expr} {op : CmpOp} {pos} {Q}
    (h : Ev c l loc σ fun x l₁ σ₁ => Ev c r l₁ σ₁ fun y l₂ σ₂ => Op2 c (compareOp op) PRep x y l₂ σ₂ fun v l₃ σ₃ => ∃ b, v = .d (.bool b) ∧ Q b l₃ σ₃)
    (hm : behindInMarks op r = false := by with_unfolding_all rfl) : IsT c (.Compare l [op] [r] pos) loc σ Q := fun s f =>
  wpAny_isTrue_Compare1 (h.use f fun u x l₁ σ₁ h₁ tk₁ ru q f₁ S₁ => q.use f₁ fun v y l₂ σ₂ h₂ tk₂ rv q₂ f₂ S₂ =>
    wpAny_mono (q₂ ⟨h₂, s.gens, s.drawn, tk₂, s.os⟩ u v f₂ (ru.tk (f₁.tk O S₂)) rv) (fun a s' p => by
      obtain ⟨x, l₃, σ₃, h₃, tk₃, rfl, r₃, ⟨b, rfl, q₃⟩, f₃, S₃⟩ := p
      obtain rfl := prep_bool r₃
      exact wpAny_truthy_bool ⟨b, l₃, σ₃, h₃, tk₃, rfl, rfl, q₃, f₃, (S₁.trans S₂).trans S₃⟩) fun _ _ x => x) hm
theorem IsT_Or {xs : List Expr} {pos} {Q} (h : Tr c (allTrue .Or xs c.env) (fun _ a b => a = b) loc σ Q) : IsT c (.BoolOp .Or xs pos) loc σ Q := fun s f => wpAny_isTrue_BoolOp (h s f)
theorem IsT_And {xs : List Expr} {pos} {Q} (h : Tr c (allTrue .And xs c.env) (fun _ a b => a = b) loc σ Q) : IsT c (.BoolOp .And xs pos) loc σ Q := fun s f => wpAny_isTrue_BoolOp (h s f)
theorem AllT_Or_nil {Q} (h : Q false loc σ) : Tr c (allTrue .Or [] c.env) (fun _ (a b : Bool) => a = b) loc σ Q := fun s f => wpAny_allTrue_Or_nil (.same0 f rfl h)
theorem AllT_And_nil {Q} (h : Q true loc σ) : Tr c (allTrue .And [] c.env) (fun _ (a b : Bool) => a = b) loc σ Q := fun s f => wpAny_allTrue_And_nil (.same0 f rfl h)
theorem AllT_Or_cons {x : Expr} {xs : List Expr} {Q} (h : IsT c x loc σ fun b l₁ σ₁ => if b then Q true l₁ σ₁ else Tr c (allTrue .Or xs c.env) (fun _ a b => a = b) l₁ σ₁ Q) :
    Tr c (allTrue .Or (x :: xs) c.env) (fun _ (a b : Bool) => a = b) loc σ Q := fun s f =>
  wpAny_allTrue_Or_cons (h.use f fun u x l₁ σ₁ h₁ tk₁ ru q f₁ S₁ => by
    subst ru
    cases u
    · exact Tr.go (Q := Q) q f₁ S₁
    · exact ⟨true, l₁, σ₁, h₁, tk₁, rfl, rfl, q, f₁, S₁⟩)
theorem AllT_And_cons {x : Expr} {xs : List Expr} {Q} (h : IsT c x loc σ fun b l₁ σ₁ => if b then Tr c (allTrue .And xs c.env) (fun _ a b => a = b) l₁ σ₁ Q else Q false l₁ σ₁) :
    Tr c (allTrue .And (x :: xs) c.env) (fun _ (a b : Bool) => a = b) loc σ Q := fun s f =>
  wpAny_allTrue_And_cons (h.use f fun u x l₁ σ₁ h₁ tk₁ ru q f₁ S₁ => by
    subst ru
    cases u
    · exact ⟨false, l₁, σ₁, h₁, tk₁, rfl, rfl, q, f₁, S₁⟩
    · exact Tr.go (Q := Q) q f₁ S₁)
/- lists of expressions -/
theorem Evs_nil {pos} {Q} (h : Q [] loc σ) : Evs c pos [] loc σ Q := fun s f => wpAny_items_nil (.same0 f .nil h)
theorem Evs_cons (O : c.Ok n) {pos} {e : Expr} {es : List Expr} {Q} (h : Ev c e loc σ fun x l₁ σ₁ => Evs c pos es l₁ σ₁ fun xs => Q (x :: xs))
    (he : starEach (e :: es) c.env = (false, eval e c.env) :: starEach es c.env := by rfl) : Evs c pos (e :: es) loc σ Q := fun s f =>
  wpAny_items_cons (h.use f fun u x l₁ σ₁ h₁ tk₁ ru q f₁ S₁ => q.use f₁ fun us xs l₂ σ₂ h₂ tk₂ rus q₂ f₂ S₂ =>
    ⟨x :: xs, l₂, σ₂, h₂, tk₂, rfl, .cons (ru.tk (f₁.tk O S₂)) rus, q₂, f₂, S₁.trans S₂⟩) he
theorem readsAll_of {h : Heap} : ∀ {us : List Value} {ds : List PyData}, All2 (PRep h) us (ds.map .d) → ReadsAll h us ds []
  | _, [], r => by cases r; exact .nil
  | _, d :: ds, r => by
    cases r with
    | cons a t => exact ReadsAll.cons (as := []) (bs := []) a (readsAll_of t)
theorem of_readsAll {h : Heap} : ∀ {us : List Value} {ds : List PyData} {as : List Addr}, ReadsAll h us ds as → as = [] → All2 (PRep h) us (ds.map .d)
  | _, _, _, .nil, _ => .nil
  | _, _, _, .cons a t, e => by
    obtain ⟨e1, e2⟩ := List.append_eq_nil_iff.mp e
    subst e1; subst e2
    exact .cons a (of_readsAll t rfl)
theorem Ev_Tuple (O : c.Ok n) {es : List Expr} {k pos} {Q} (h : Evs c pos es loc σ fun xs l₁ σ₁ => ∃ ds : List PyData, xs = ds.map .d ∧ ds.length ≤ 1000 ∧ Q (.d (.tuple ds)) l₁ σ₁) : Ev c (.Tuple es k pos) loc σ Q := fun s f =>
  Tuple_ (h.use f fun us xs l₁ σ₁ h₁ tk₁ rus q f₁ S₁ => by
    obtain ⟨ds, rfl, hl, q⟩ := q
    have hz : us.length ≤ sizeLine := by rw [rus.length, List.length_map, sizeLine_eq]; lia
    refine wpAny_newObj_type ?_ (by show us.toArray.size ≤ sizeLine; rw [List.size_toArray]; exact hz)
    have k : ∀ b o, h₁.get? b = some o → (h₁.push { cls := .type "tuple", data := .seq us.toArray }).get? b = some o := fun b o e => Heap.get?_push_of_some _ e
    refine ⟨_, l₁, σ₁, _, tk₁, rfl, ?_, q, f₁.keeps O k, S₁.trans (.keeps f₁.offF k)⟩
    exact reads_tuple_at (Heap.get?_push_size _ rfl) rfl rfl (readsAll_of (by simpa using all2_tk (TupKeep.of_keep k) rus)))
theorem Ev_List (O : c.Ok n) {es : List Expr} {pos} {Q} (h : Evs c pos es loc σ fun xs l₁ σ₁ => xs.length ≤ 1000 ∧ ∀ a, σ₁ a = none → Q (.r a) l₁ (setH σ₁ a (.list xs))) : Ev c (.List es pos) loc σ Q := fun s f =>
  List_ (h.use f fun us xs l₁ σ₁ h₁ tk₁ rus q f₁ S₁ => by
    obtain ⟨hl, q⟩ := q
    have hz : us.length ≤ sizeLine := by rw [rus.length, sizeLine_eq]; lia
    refine wpAny_newObj_type ?_ (by show us.toArray.size ≤ sizeLine; rw [List.size_toArray]; exact hz)
    have k : ∀ b o, h₁.get? b = some o → (h₁.push { cls := .type "list", data := .seq us.toArray }).get? b = some o := fun b o e => Heap.get?_push_of_some _ e
    refine ⟨.r h₁.objs.size, l₁, _, _, tk₁, rfl, mk_ref _ _, q h₁.objs.size (f₁.H.fresh (get_size_none _ (Nat.le_refl _))), f₁.alloc O (Nat.le_refl _) k ?_, S₁.trans (.alloc f₁.offF (f₁.notF O (Nat.le_refl _)) (get_size_none _ (Nat.le_refl _)) k)⟩
    exact ⟨us, 0, PySem.IsL.new _ _, all2_tk (TupKeep.of_keep k) rus⟩)
/- attributes, subscripts -/
theorem Ev_Attr {e : Expr} {attr : Str} {pos} {Q} (h : Ev c e loc σ fun x l₁ σ₁ => Op1 c (fun v => getAttr v attr true) PRep x l₁ σ₁ Q)
    (he : eval (.Attribute e attr pos) c.env = (do
      let o ← eval e c.env
      standAt pos.atName
      let r ← holding [o] (getAttr o attr true)
      letTemporaryGo e o r
      pure r) := by with_unfolding_all rfl) : Ev c (.Attribute e attr pos) loc σ Q := fun s f =>
  Attribute_any_ (h.use f fun u x l₁ σ₁ h₁ tk₁ ru q f₁ S₁ => wpAny_mono (q ⟨h₁, s.gens, s.drawn, tk₁, s.os⟩ u f₁ ru) (fun _ _ p => p.after (s := s) S₁) fun _ _ x => x) he
theorem Ev_Sub (O : c.Ok n) {e i : Expr} {pos} {Q} (h : Ev c e loc σ fun x l₁ σ₁ => Ev c i l₁ σ₁ fun y l₂ σ₂ => Op2 c (subscriptTail e i) PRep x y l₂ σ₂ Q) : Ev c (.Subscript e i pos) loc σ Q := fun s f =>
  Subscript_ (h.use f fun u x l₁ σ₁ h₁ tk₁ ru q f₁ S₁ => q.use f₁ fun v y l₂ σ₂ h₂ tk₂ rv q₂ f₂ S₂ =>
    wpAny_mono (q₂ ⟨h₂, s.gens, s.drawn, tk₂, s.os⟩ u v f₂ (ru.tk (f₁.tk O S₂)) rv) (fun _ _ p => p.after (s := s) (S₁.trans S₂)) fun _ _ x => x)
/- statements -/
theorem Ex_nil {Q} (h : Q .next loc σ) : Ex c [] loc σ Q := fun s f => wpAny_execs_nil (.same0 (b := AF.next) f (by trivial) h)
theorem Ex_cons {st : Stmt} {rest : List Stmt} {Q} (h : Ex1 c st loc σ fun fl l₁ σ₁ => match fl with | .next => Ex c rest l₁ σ₁ Q | fl => Q fl l₁ σ₁) : Ex c (st :: rest) loc σ Q := fun s f =>
  wpAny_execs_cons (h.use f fun u x l₁ σ₁ h₁ tk₁ ru q f₁ S₁ => by
    cases x <;> cases u <;> first | exact ru.elim | skip
    · exact Tr.go (show Ex c rest l₁ σ₁ Q from q) f₁ S₁
    · exact ⟨.brk, l₁, σ₁, h₁, tk₁, rfl, by trivial, q, f₁, S₁⟩
    · exact ⟨.cont, l₁, σ₁, h₁, tk₁, rfl, by trivial, q, f₁, S₁⟩
    · exact ⟨.ret _, l₁, σ₁, h₁, tk₁, rfl, ru, q, f₁, S₁⟩)
theorem Ex1_Return {e : Expr} {pos} {Q} (h : Ev c e loc σ fun x => Q (.ret x)) : Ex1 c (.Return (some e) pos) loc σ Q := fun s f =>
  wpAny_Return_some (h.use f fun u x l₁ σ₁ h₁ tk₁ ru q f₁ S₁ => ⟨.ret x, l₁, σ₁, h₁, tk₁, rfl, ru, q, f₁, S₁⟩)
theorem Ex1_Continue {pos} {Q} (h : Q .cont loc σ) : Ex1 c (.Continue pos) loc σ Q := fun s f => wpAny_Continue (.same0 (b := AF.cont) f (by trivial) h)
theorem Ex1_If {t : Expr} {b o : List Stmt} {pos} {Q} (h : IsT c t loc σ fun x l₁ σ₁ => if x then Ex c b l₁ σ₁ Q else Ex c o l₁ σ₁ Q) : Ex1 c (.If t b o pos) loc σ Q := fun s f =>
  wpAny_If (h.use f fun u x l₁ σ₁ h₁ tk₁ ru q f₁ S₁ => by
    subst ru
    cases u
    · exact Tr.go (show Ex c o l₁ σ₁ Q from q) f₁ S₁
    · exact Tr.go (show Ex c b l₁ σ₁ Q from q) f₁ S₁)
theorem Ex1_Expr (O : c.Ok n) {e : Expr} {pos} {Q} (h : Ev c e loc σ fun x l₁ σ₁ => (match x with | .d .none => True | .d (.int _) => True | _ => False) ∧ Q .next l₁ σ₁)
    (hs : swapsWith e none pos.line c.env = pure false := by rfl) : Ex1 c (.Expr e pos) loc σ Q := fun s f =>
  wpAny_Expr (h.use f fun u x l₁ σ₁ h₁ tk₁ ru q f₁ S₁ => by
    obtain ⟨q1, q⟩ := q
    have fin : Post c FlRep Q σ s .next { s with heap := h₁, toks := tk₁ } := ⟨.next, l₁, σ₁, h₁, tk₁, rfl, by trivial, q, f₁, S₁⟩
    cases x with
    | r a => exact q1.elim
    | rng a b => exact q1.elim
    | d d => cases d <;> first | exact q1.elim | skip
             · obtain rfl := prep_none ru; exact fin
             · obtain ⟨t, rfl⟩ := prep_int ru; exact fin)
    (by unfold interactive; rw [O.kind]; rfl) hs
theorem store_local (O : c.Ok n) {x : Str} {v : Value} {pv : PV} {s : Shared} {α : Type} {R : Heap → α → AF → Prop} {Q : Unit → Shared → Prop} {E} (f : FRel c loc σ s.heap) (hk : c.env.kindOf x = some .local) (r : PRep s.heap v pv)
    (h : ∀ h' tk', FRel c (setL x pv loc) σ h' → Step c.F σ s.heap σ h' → Q () { s with heap := h', toks := tk' }) : wpAny (model c.prog c.w) c.A (storeName c.env x v) Q E s := by
  obtain ⟨m, hn, q⟩ := f.ns
  refine wpAny_storeName_local hk hn (fun h' hn' hs => ?_) (by rw [O.kind]; rfl)
  obtain ⟨f', S⟩ := f.store O hk hn r hn' hs
  exact h h' _ f' S
theorem store_cell (O : c.Ok n) {x : Str} {v : Value} {pv : PV} {s : Shared} {Q : Unit → Shared → Prop} {E} (f : FRel c loc σ s.heap) (hk : c.env.kindOf x = some .cell) {a : Addr} (hx : c.env.cells.lookup x = some a) (fa : c.F a) (r : PRep s.heap v pv)
    (h : ∀ h' tk', FRel c (setL x pv loc) σ h' → Step c.F σ s.heap σ h' → Q () { s with heap := h', toks := tk' }) : wpAny (model c.prog c.w) c.A (storeName c.env x v) Q E s := by
  obtain ⟨⟨v₀, ic⟩, _⟩ := f.cellsAt x a hx
  refine wpAny_storeName_cell O.kind hk hx ic (fun h' ic' hs => ?_)
  obtain ⟨f', S⟩ := f.storeC O hk hx fa r ic' hs
  exact h h' _ f' S
theorem Ex1_Assign (O : c.Ok n) {x : Str} {pos' pos} {e : Expr} {Q} (h : Ev c e loc σ fun v l₁ σ₁ => Q .next (setL x v l₁) σ₁) (hk : c.env.kindOf x = some .local)
    (hs : swapsWith e (some (.Name x pos')) pos.line c.env = pure false := by rfl) : Ex1 c (.Assign [.Name x pos'] e pos) loc σ Q := fun s f =>
  wpAny_Assign_Name (h.use f fun u v l₁ σ₁ h₁ tk₁ ru q f₁ S₁ =>
    store_local (R := FlRep) O f₁ hk ru fun h' tk' f' S' => ⟨.next, _, σ₁, h', tk', rfl, by trivial, q, f', S₁.trans S'⟩) hs
theorem Ex1_AssignC (O : c.Ok n) {x : Str} {pos' pos} {e : Expr} {Q} (h : Ev c e loc σ fun v l₁ σ₁ => Q .next (setL x v l₁) σ₁) (hk : c.env.kindOf x = some .cell) {a : Addr} (hx : c.env.cells.lookup x = some a) (fa : c.F a)
    (hs : swapsWith e (some (.Name x pos')) pos.line c.env = pure false := by rfl) : Ex1 c (.Assign [.Name x pos'] e pos) loc σ Q := fun s f =>
  wpAny_Assign_Name (h.use f fun u v l₁ σ₁ h₁ tk₁ ru q f₁ S₁ =>
    store_cell O f₁ hk hx fa ru fun h' tk' f' S' => ⟨.next, _, σ₁, h', tk', rfl, by trivial, q, f', S₁.trans S'⟩) hs
theorem Ex1_AssignAttr (O : c.Ok n) {o e : Expr} {attr : Str} {pos' pos} {Q} (h : Ev c e loc σ fun v l₁ σ₁ => Ev c o l₁ σ₁ fun ov l₂ σ₂ => Op2 c (fun ov v => setAttr ov attr v) (fun _ _ _ => True) ov v l₂ σ₂ fun (_ : Unit) => Q .next)
    (hs : swapsWith e (some (.Attribute o attr pos')) pos.line c.env = pure false := by rfl) : Ex1 c (.Assign [.Attribute o attr pos'] e pos) loc σ Q := fun s f =>
  plainObj_wpAny_Assign_Attribute (h.use f fun u v l₁ σ₁ h₁ tk₁ ru q f₁ S₁ => q.use f₁ fun ou ov l₂ σ₂ h₂ tk₂ ro q₂ f₂ S₂ =>
    wpAny_mono (q₂ ⟨h₂, s.gens, s.drawn, tk₂, s.os⟩ ou u f₂ ro (ru.tk (f₁.tk O S₂))) (fun _ s' p => by
      obtain ⟨_, l₃, σ₃, h₃, tk₃, rfl, _, q₃, f₃, S₃⟩ := p
      exact ⟨.next, l₃, σ₃, h₃, tk₃, rfl, by trivial, q₃, f₃, (S₁.trans S₂).trans S₃⟩) fun _ _ x => x) hs
theorem Ex1_AssignSub (O : c.Ok n) {o i e : Expr} {pos' pos} {Q} (h : Ev c e loc σ fun v l₁ σ₁ => Ev c o l₁ σ₁ fun ov l₂ σ₂ => Ev c i l₂ σ₂ fun iv l₃ σ₃ => Op3 c (fun ov iv v => setItem ov iv v) (fun _ _ _ => True) ov iv v l₃ σ₃ fun (_ : Unit) => Q .next)
    (hs : swapsWith e (some (.Subscript o i pos')) pos.line c.env = pure false := by rfl) : Ex1 c (.Assign [.Subscript o i pos'] e pos) loc σ Q := fun s f =>
  wpAny_Assign_Subscript (h.use f fun u v l₁ σ₁ h₁ tk₁ ru q f₁ S₁ => q.use f₁ fun ou ov l₂ σ₂ h₂ tk₂ ro q₂ f₂ S₂ => q₂.use f₂ fun iu iv l₃ σ₃ h₃ tk₃ ri q₃ f₃ S₃ =>
    wpAny_mono (q₃ ⟨h₃, s.gens, s.drawn, tk₃, s.os⟩ ou iu u f₃ (ro.tk (f₂.tk O S₃)) ri ((ru.tk (f₁.tk O S₂)).tk (f₂.tk O S₃))) (fun _ s' p => by
      obtain ⟨_, l₄, σ₄, h₄, tk₄, rfl, _, q₄, f₄, S₄⟩ := p
      exact ⟨.next, l₄, σ₄, h₄, tk₄, rfl, by trivial, q₄, f₄, ((S₁.trans S₂).trans S₃).trans S₄⟩) fun _ _ x => x) hs
theorem Ex1_Aug (O : c.Ok n) {x : Str} {pos' pos} {op : Operator} {e : Expr} {old : PV} {Q} (hv : lkp x loc = some old) (hk : c.env.kindOf x = some .local)
    (h : Ev c e loc σ fun v l₁ σ₁ => Op2 c (inplaceOp op) PRep old v l₁ σ₁ fun r l₂ σ₂ => Q .next (setL x r l₂) σ₂) : Ex1 c (.AugAssign (.Name x pos') op e pos) loc σ Q := fun s f => by
  refine wpAny_AugAssign_Name ?_
  obtain ⟨m, hn, q⟩ := f.ns
  obtain ⟨v, ev, r⟩ := q x old hv hk
  refine wpAny_loadName_local O.kind hk hn ev ?_
  refine h.use f fun u y l₁ σ₁ h₁ tk₁ ru q f₁ S₁ => ?_
  refine wpAny_mono (q ⟨h₁, s.gens, s.drawn, tk₁, s.os⟩ v u f₁ (r.tk (f.tk O S₁)) ru) (fun a s' p => ?_) fun _ _ x => x
  obtain ⟨b, l₂, σ₂, h₂, tk₂, rfl, r₂, q₂, f₂, S₂⟩ := p
  exact store_local (R := FlRep) O f₂ hk r₂ fun h' tk' f' S' => ⟨.next, _, σ₂, h', tk', rfl, by trivial, q₂, f', (S₁.trans S₂).trans S'⟩
end
end SFw3
section SFw4
noncomputable abbrev NoF : Addr → Prop := fun _ => False
noncomputable def FPost (g : Gx) (Q : PV → Hp → Prop) (σ : Hp) (s : Shared) (v : Value) (s' : Shared) : Prop :=
  ∃ pv σ' h' tk', s' = { s with heap := h', toks := tk' } ∧ PRep h' v pv ∧ Q pv σ' ∧ HRel g.prog g.w g.base σ' h' ∧ Step NoF σ s.heap σ' h'
/-- a call of f with these values -/
noncomputable def Fn (g : Gx) (n : Nat) (f : Value) (args : List PV) (σ : Hp) (Q : PV → Hp → Prop) : Prop :=
  ∀ A s vs, OkA n A → HRel g.prog g.w g.base σ s.heap → All2 (PRep s.heap) vs args → wpAny (model g.prog g.w) A (call f vs) (FPost g Q σ s) NoE s
/-- the same, of a def of the text -/
noncomputable def FnC (g : Gx) (n : Nat) (f : Value) (args : List PV) (σ : Hp) (Q : PV → Hp → Prop) : Prop :=
  ∀ A s vs, OkA n A → HRel g.prog g.w g.base σ s.heap → All2 (PRep s.heap) vs args →
    codeAny (model g.prog g.w) A (.call f ⟨vs, []⟩) (fun r s' => match r with | .ok (.ret v) => FPost g Q σ s v s' | _ => False) s
theorem FnC.fn {g : Gx} {n : Nat} {f : Value} {args : List PV} {σ : Hp} {Q : PV → Hp → Prop} (h : FnC g n f args σ Q) : Fn g n f args σ Q := fun A s vs a r p =>
  wpAny_call (codeAny_mono (h A s vs a r p) fun r s' x => by rcases r with e | (v | _ | _ | _) <;> first | exact x | exact x.elim)
theorem Fn.up {g : Gx} {n k : Nat} {f : Value} {args : List PV} {σ : Hp} {Q : PV → Hp → Prop} (h : Fn g n f args σ Q) (hk : n ≤ k) : Fn g k f args σ Q := fun A s vs a => h A s vs (a.le hk)
theorem FnC.up {g : Gx} {n k : Nat} {f : Value} {args : List PV} {σ : Hp} {Q : PV → Hp → Prop} (h : FnC g n f args σ Q) (hk : n ≤ k) : FnC g k f args σ Q := fun A s vs a => h A s vs (a.le hk)
/-- the caller's frame behind a call -/
theorem FRel.called {c : Cx} {n : Nat} {loc : Loc} {σ σ' : Hp} {h h' : Heap} (O : c.Ok n) (f : FRel c loc σ h) (R : HRel c.prog c.w c.base σ' h') (S : Step NoF σ h σ' h') :
    FRel c loc σ' h' ∧ Step c.F σ h σ' h' := by
  have tk : TupKeep h h' := f.H.tk S (fun _ _ x => x.elim)
  obtain ⟨m, hn, q⟩ := f.ns
  have offF : ∀ a, c.F a → σ' a = none := fun a fa => by
    cases e : σ' a with
    | none => rfl
    | some mo =>
      have h1 := S.new a mo e (f.offF a fa)
      rcases O.isF a fa with rfl | ⟨x, hx⟩
      · obtain ⟨o, es, ep, ho, _⟩ := hn; rw [ho] at h1; cases h1
      · obtain ⟨⟨v, o, ho, _⟩, _⟩ := f.cellsAt x a hx; rw [ho] at h1; cases h1
  refine ⟨⟨R, ⟨m, hn.at' fun o e => S.keep _ o e (f.offF _ O.FL) id, fun x pv e kd => ?_⟩, fun x pv e kd => ?_, fun x a e => ?_, offF⟩, fun a o e n1 _ => S.keep a o e n1 id, S.new, offF⟩
  · obtain ⟨v, e1, r1⟩ := q x pv e kd; exact ⟨v, e1, r1.tk tk⟩
  · obtain ⟨a, v, l, ⟨o, ho, hd⟩, r1⟩ := f.cells x pv e kd
    exact ⟨a, v, l, ⟨o, S.keep a o ho (f.cellsAt x a l).2 id, hd⟩, r1.tk tk⟩
  · obtain ⟨⟨v, o, ho, hd⟩, n1⟩ := f.cellsAt x a e
    refine ⟨⟨v, o, S.keep a o ho n1 id, hd⟩, ?_⟩
    cases e1 : σ' a with
    | none => rfl
    | some mo => have h1 := S.new a mo e1 n1; rw [ho] at h1; cases h1
theorem lookup_nodup : ∀ {l : List (Str × Value)} {x : Str} {v : Value}, (l.map (·.1)).Nodup → (x, v) ∈ l → l.lookup x = some v
  | (y, u) :: r, x, v, hnd, hm => by
    rw [List.map_cons, List.nodup_cons] at hnd
    rcases List.mem_cons.mp hm with e | hm
    · cases e; simp
    · have hne : x ≠ y := fun e => hnd.1 (e ▸ List.mem_map.mpr ⟨(x, v), hm, rfl⟩)
      rw [List.lookup_cons, beq_eq_false_iff_ne.mpr hne]
      exact lookup_nodup hnd.2 hm
theorem zip_rep {h : Heap} : ∀ {ns : List Str} {vs : List Value} {ps : List PV} {x : Str} {pv : PV}, All2 (PRep h) vs ps → lkp x (ns.zip ps) = some pv → ∃ v, (x, v) ∈ ns.zip vs ∧ PRep h v pv
  | [], _, _, _, _, _, e => by simp [lkp] at e
  | y :: ns, _, _, x, pv, .nil, e => by simp [lkp] at e
  | y :: ns, _, _, x, pv, .cons (a := v) (b := p) r t, e => by
    simp only [List.zip_cons_cons, lkp] at e
    by_cases hx : x = y
    · subst hx; rw [if_pos rfl] at e; cases e; exact ⟨v, by simp, r⟩
    · rw [if_neg hx] at e
      obtain ⟨v', hm, r'⟩ := zip_rep t e
      exact ⟨v', by simp [hm], r'⟩
theorem lkp_zip_mem : ∀ {ns : List Str} {ps : List PV} {x : Str} {pv : PV}, lkp x (ns.zip ps) = some pv → x ∈ ns
  | [], _, _, _, e => by simp [lkp] at e
  | _ :: _, [], _, _, e => by simp [lkp] at e
  | y :: ns, p :: ps, x, pv, e => by
    simp only [List.zip_cons_cons, lkp] at e
    by_cases hx : x = y
    · rw [hx]; exact .head _
    · rw [if_neg hx] at e; exact .tail _ (lkp_zip_mem e)
theorem lookup_mem {β : Type} : ∀ {l : List (Str × β)} {x : Str} {k : β}, l.lookup x = some k → (x, k) ∈ l
  | [], _, _, h => by cases h
  | (y, k') :: r, x, k, h => by
    rw [List.lookup_cons] at h
    by_cases hy : (x == y) = true
    · rw [hy] at h; cases h; rw [beq_iff_eq.mp hy]; exact .head _
    · have hy' : (x == y) = false := by simpa using hy
      rw [hy'] at h; exact .tail _ (lookup_mem h)
theorem nodup_rev {α : Type} {l : List α} (h : l.Nodup) : l.reverse.Nodup := List.pairwise_reverse.mpr (h.imp fun x => Ne.symm x)
theorem zip_fst_mem : ∀ {ns : List Str} {vs : List Value} {x : Str}, x ∈ (ns.zip vs).map (·.1) → x ∈ ns
  | [], _, _, h => by simp at h
  | _ :: _, [], _, h => by simp at h
  | y :: ns, v :: vs, x, h => by
    simp only [List.zip_cons_cons, List.map_cons, List.mem_cons] at h
    rcases h with h | h
    · rw [h]; exact .head _
    · exact .tail _ (zip_fst_mem h)
theorem zip_fst_nodup : ∀ {ns : List Str} {vs : List Value}, ns.Nodup → ((ns.zip vs).map (·.1)).Nodup
  | [], _, _ => by simp
  | _ :: _, [], _ => by simp
  | y :: ns, v :: vs, h => by
    rw [List.nodup_cons] at h
    simp only [List.zip_cons_cons, List.map_cons, List.nodup_cons]
    exact ⟨fun q => h.1 (zip_fst_mem q), zip_fst_nodup h.2⟩
theorem FnC_def {g : Gx} (G : g.Ok) {n : Nat} {f : Addr} {args : List PV} {σ : Hp} {Q : PV → Hp → Prop} {oc : Value} {od : Option Addr} {osl : Array (Option Value)} {name qual : Str} {params : Arguments} {body : List Stmt} {scope : Scope}
    {dV kV doc pm cdv ct : Value} {an : Option Addr} (names : List Str)
    (ho : g.K.lookup f = some ⟨oc, od, .func (fnOf name qual params body scope dV kV doc pm an cdv ct), osl⟩) (hcd : codeIn g.K cdv qual = true)
    (hbind : ∀ vs : List Value, vs.length = args.length → bindArgs (fnOf name qual params body scope dV kV doc pm an cdv ct) ⟨vs, []⟩ = pure (names.zip vs))
    (hloc : (names.all fun y => scope.names.lookup y == some .local) = true) (hnd : names.Nodup)
    (h : ∀ A F env, Cx.Ok ⟨g, A, F, env⟩ n → env.scope = scope → Ex ⟨g, A, F, env⟩ body (names.zip args) σ fun fl _ σ' => Q (match fl with | .ret pv => pv | _ => .d .none) σ')
    (hco : scope.isCoroutine = false := by rfl) (hgen : scope.isGenerator = false := by rfl) (hk : scope.kind = .function := by rfl) (hcell : ∀ x ∈ scope.names, x.2 ≠ .cell := by decide +kernel) :
    FnC g (n + 1) (.ref f) args σ Q := fun A s vs a R p => by
  refine codeAny_call_def (fd := fnOf name qual params body scope dV kV doc pm an cdv ct) (body := body) (binds := names.zip vs) (by have := a.depth; lia) (R.keep _ _ (G.X _ _ ho)) rfl (G.lim.keeps R.keep)
    ((codeRec_of G.X hcd).keeps R.keep) rfl (BindsTo.of_eq (hbind vs (p.length))) hcell (fun y hy => ?_) (fun h₁ hns hk₁ => ?_) hco hgen hk
  · have := List.all_eq_true.mp hloc y.1 (List.of_mem_zip hy).1
    simpa using this
  let L := s.heap.objs.size
  let env := callEnv (fnOf name qual params body scope dV kV doc pm an cdv ct) L f
  let A' := A.deeper env
  have O : Cx.Ok ⟨g, A', fun b => b = L, env⟩ n :=
    { toOk := G
      hh := a.hh
      depth := by have := a.depth; show A.depth + 1 + n < _; lia
      units := by have := a.units; show A.units + 3 + 16 * n + 200 < _; lia
      kind := hk
      globals := rfl
      builtins := rfl
      newL := R.size
      FL := rfl
      isF := fun a e => .inl e
      inj := fun x y a e => by cases e
      newC := fun x a e => by cases e }
  have hnone : σ L = none := R.fresh (get_size_none _ (Nat.le_refl _))
  have f0 : FRel ⟨g, A', fun b => b = L, env⟩ (names.zip args) σ h₁ :=
    { H := R.keeps hk₁ (Nat.le_trans R.size (Nat.le_of_lt hns.lt))
      ns := ⟨_, hns, fun x pv e kd => by
        obtain ⟨v, hm, r⟩ := zip_rep p e
        refine ⟨v, ?_, r.tk (TupKeep.of_keep hk₁)⟩
        refine lookup_nodup ?_ (List.mem_reverse.mpr hm)
        rw [List.map_reverse]
        refine nodup_rev ?_
        exact zip_fst_nodup hnd⟩
      cells := fun x pv e kd => by
        exfalso
        rcases kd with kd | kd
        · exact hcell _ (lookup_mem (show scope.names.lookup x = some .cell from kd)) rfl
        · have := List.all_eq_true.mp hloc x (lkp_zip_mem e)
          have kd' : scope.names.lookup x = some .free := kd
          rw [kd'] at this; cases this
      cellsAt := fun x a e => by cases e
      offF := fun b e => e ▸ hnone }
  refine wpAny_mono (h A' _ env O rfl { s with heap := h₁, toks := s.toks + (names.zip vs).length } f0) (fun fl s' q => ?_) fun _ _ x => False.elim x
  obtain ⟨b, loc', σ', h', tk', rfl, r, q, f', S⟩ := q
  have S' : Step NoF σ s.heap σ' h' := ⟨fun b o e n1 _ => S.keep b o (hk₁ b o e) n1 (fun z => by have := Heap.lt_size e; rw [z] at this; exact Nat.lt_irrefl _ this),
    (fun b mo e n1 => by
      have := S.new b mo e n1
      cases q : s.heap.get? b with
      | none => rfl
      | some o => rw [hk₁ b o q] at this; cases this), fun _ x => x.elim⟩
  cases fl <;> cases b <;> first | exact r.elim | skip
  · exact ⟨.d .none, σ', h', tk', rfl, mk_none _, q, f'.H, S'⟩
  · exact ⟨.d .none, σ', h', tk', rfl, mk_none _, q, f'.H, S'⟩
  · exact ⟨.d .none, σ', h', tk', rfl, mk_none _, q, f'.H, S'⟩
  · exact ⟨_, σ', h', tk', rfl, r, q, f'.H, S'⟩
end SFw4
section SFw5
theorem units_make (C : Addr) (vs : List Value) : (Code.builtin "type.__call__" ⟨.ref C :: vs, []⟩).cUnits = 1 := rfl
theorem Fn_cls {g : Gx} (G : g.Ok) {n : Nat} {C fI : Addr} {args : List PV} {σ : Hp} {Q : PV → Hp → Prop} (hm : makesIn g.K C = true) (hi : findIn g.K (.ref C) "__init__" = some (some (.ref fI)))
    (hf : typeIn g.K (.ref fI) = some (.type "function"))
    (h : ∀ x dx, σ x = none → σ dx = none → x ≠ dx → FnC g n (.ref fI) (.r x :: args) (setH (setH σ dx (.ns [])) x (.inst C dx)) fun r σ' => r = .d .none ∧ Q (.r x) σ') : Fn g (n + 1) (.ref C) args σ Q := fun A s vs a R p => by
  obtain ⟨hh, gg, dr, t, os⟩ := s
  have X := G.X.keeps R.keep
  refine wpAny_call (make_core (makes_of X hm) (looks_findIn X hi) (fun self => bind_fn X self hf) (.inl rfl) ?_)
  let dx := hh.objs.size
  let x := hh.objs.size + 1
  have k1 : ∀ b o, hh.get? b = some o → (hh.push emptyDict).get? b = some o := fun b o e => Heap.get?_push_of_some _ e
  have k2 : ∀ b o, (hh.push emptyDict).get? b = some o → ((hh.push emptyDict).push (instObj C dx)).get? b = some o := fun b o e => Heap.get?_push_of_some _ e
  have g1 : (hh.push emptyDict).get? dx = some emptyDict := Heap.get?_push_size _ rfl
  have e2 : (hh.push emptyDict).objs.size = x := Heap.size_push _ _
  have g2 : ((hh.push emptyDict).push (instObj C dx)).get? x = some (instObj C dx) := e2 ▸ Heap.get?_push_size _ rfl
  have n1 : hh.get? dx = none := get_size_none _ (Nat.le_refl _)
  have n2 : hh.get? x = none := get_size_none _ (Nat.le_succ _)
  have n3 : (hh.push emptyDict).get? x = none := get_size_none _ (Nat.le_of_eq e2)
  have s1 : g.base.objs.size ≤ (hh.push emptyDict).objs.size := by rw [e2]; exact Nat.le_succ_of_le R.size
  have s2 : g.base.objs.size ≤ ((hh.push emptyDict).push (instObj C dx)).objs.size := by rw [Heap.size_push]; exact Nat.le_succ_of_le s1
  have hne : x ≠ dx := Nat.succ_ne_self _
  have R1 : HRel g.prog g.w g.base (setH σ dx (.ns [])) (hh.push emptyDict) := R.alloc k1 R.size s1 ⟨[], 0, g1, .nil⟩
  have R2 := R1.alloc (mo' := .inst C dx) k2 (a := x) (Nat.le_succ_of_le R.size) s2 g2
  have f1 := R.fresh n1
  have f2 := R.fresh n2
  have S2 : Step NoF σ hh (setH (setH σ dx (.ns [])) x (.inst C dx)) ((hh.push emptyDict).push (instObj C dx)) :=
    (Step.alloc (fun _ z => z.elim) id n1 k1).trans (.alloc (fun _ z => z.elim) id n3 k2)
  have tk : TupKeep hh ((hh.push emptyDict).push (instObj C dx)) := .of_keep fun b o e => k2 b o (k1 b o e)
  refine codeAny_mono (h x dx f2 f1 hne (A.under (.builtin "type.__call__" ⟨.ref C :: vs, []⟩)) ⟨_, gg, dr, t, os⟩ (.ref x :: vs) ?_ R2 (.cons (mk_ref _ _) (all2_tk tk p))) fun r s' q => ?_
  · refine ⟨a.hh, ?_, ?_⟩
    · have := a.depth; show A.depth + 1 + n < _; lia
    · have := a.units; show A.units + 1 + 16 * n + 200 < _; lia
  · rcases r with e | (_ | _ | _ | v) <;> first | exact q.elim | skip
    obtain ⟨pv, σ', h', tk', rfl, r1, ⟨rfl, q⟩, R', S'⟩ := q
    refine ⟨prep_none r1, .r x, σ', h', tk', rfl, mk_ref _ _, q, R', S2.trans S'⟩
/- calls -/
noncomputable def plainE : Expr → Bool
  | .Starred .. => false
  | _ => true
theorem star_plain {e : Expr} (h : plainE e = true) (es : List Expr) (env : Env) : starEach (e :: es) env = (false, eval e env) :: starEach es env := by
  cases e <;> first | rfl | cases h
theorem star_any {pos : Pos} {env : Env} : ∀ {es : List Expr}, es.all plainE = true → (backTo pos (starEach es env)).any (·.1) = false
  | [], _ => rfl
  | e :: es, h => by
    obtain ⟨h1, h2⟩ := Bool.and_eq_true_iff.mp (List.all_cons ▸ h)
    rw [star_plain h1]
    show (false || (backTo pos (starEach es env)).any (·.1)) = false
    rw [star_any h2]; rfl
theorem backTo_plain {pos : Pos} {env : Env} {e : Expr} (h : plainE e = true) (es : List Expr) : backTo pos (starEach (e :: es) env) = (false, eval e env) :: backTo pos (starEach es env) := by
  rw [star_plain h]; rfl
section
variable {c : Cx} {n : Nat} {loc : Loc} {σ : Hp}
theorem raw_args {pos : Pos} {es : List Expr} {f : Value} {Q'} {s : Shared} {Q : Args → Shared → Prop} (hp : es.all plainE = true) (f₀ : FRel c loc σ s.heap) (h : Evs c pos es loc σ Q')
    (k : ∀ us xs l₁ σ₁ h₁ tk₁, All2 (PRep h₁) us xs → Q' xs l₁ σ₁ → FRel c l₁ σ₁ h₁ → Step c.F σ s.heap σ₁ h₁ → Q ⟨us, []⟩ { s with heap := h₁, toks := tk₁ }) :
    wpAny (model c.prog c.w) c.A (evalArgs f true (backTo pos (starEach es c.env)) []) Q NoE s := by
  cases es with
  | nil =>
    unfold evalArgs
    show wpAny _ _ (spliced (backTo pos (starEach [] c.env)) >>= _) Q NoE s
    refine wpAny_bind (h.use f₀ fun us xs l₁ σ₁ h₁ tk₁ r q f₁ S₁ => ?_)
    refine wpAny_holding ?_
    exact wpAny_bind (wpAny_pure (wpAny_bind (wpAny_pure (wpAny_pure (k us xs l₁ σ₁ h₁ tk₁ r q f₁ S₁)))))
  | cons e es =>
    obtain ⟨h1, h2⟩ := Bool.and_eq_true_iff.mp (List.all_cons ▸ hp)
    rw [backTo_plain h1]
    refine evalArgs_plain ?_
    rw [← backTo_plain h1]
    exact h.use f₀ fun us xs l₁ σ₁ h₁ tk₁ r q f₁ S₁ => k us xs l₁ σ₁ h₁ tk₁ r q f₁ S₁
/-- behind the arguments: the call itself -/
theorem raw_call {f : Value} {first : List Value} {fp xs : List PV} {us : List Value} {Q : PV → Loc → Hp → Prop} {s : Shared} {σ₀ : Hp} {h₁ : Heap} {tk₁ : Nat} (O : c.Ok n) (hF : Fn c.toGx n f (fp ++ xs) σ fun r σ' => Q r loc σ')
    (f₁ : FRel c loc σ h₁) (S : Step c.F σ₀ s.heap σ h₁) (rf : All2 (PRep h₁) first fp) (r : All2 (PRep h₁) us xs) :
    wpAny (model c.prog c.w) c.A (call f (first ++ us)) (Post c PRep Q σ₀ s) NoE { s with heap := h₁, toks := tk₁ } :=
  wpAny_mono (hF c.A { s with heap := h₁, toks := tk₁ } (first ++ us) O.toOkA f₁.H (rf.append r)) (fun v s' ⟨pv, σ', h', tk', e, r1, q, R, S'⟩ => by
    obtain ⟨f2, S2⟩ := f₁.called O R S'
    exact ⟨pv, loc, σ', h', tk', e, r1, q, f2, S.trans S2⟩) fun _ _ x => x
/-- a def or a class of the text, by its name -/
theorem Ev_CallG (O : c.Ok n) {x : Str} {np pos : Pos} {es : List Expr} {v : Value} {Q} (hk : c.env.kindOf x = some .globalImplicit) (e : nsIn c.K mainGlobals x = some (some v)) (hv : keepIn c.K v = true)
    (h : Evs c pos es loc σ fun xs l₁ σ₁ => Fn c.toGx n v xs σ₁ fun r σ₂ => Q r l₁ σ₂) (hp : es.all plainE = true := by rfl) (hd : (x == ("__debug__" : Str)) = false := by decide +kernel) :
    Ev c (.Call (.Name x np) es [] pos) loc σ Q := fun s f => by
  refine Call_ (raw_global O f hk e ?_ hd)
  refine callWith_of (by rw [star_any hp]; rfl) (keeps_K hv) ?_
  exact raw_args hp f h fun us xs l₁ σ₁ h₁ tk₁ r q f₁ S₁ => ⟨O.X.keeps f₁.H.keep, raw_call (fp := []) (first := []) O q f₁ S₁ .nil r⟩
/-- a built-in function, by its name -/
theorem Ev_CallB (O : c.Ok n) {x : Str} {np pos : Pos} {es : List Expr} {id : String} {Q} (hk : c.env.kindOf x = some .globalImplicit) (e : nsIn c.K mainGlobals x = some none) (hv : bootBuiltins x = some (.builtin id))
    (h : Evs c pos es loc σ fun xs l₁ σ₁ => Fn c.toGx n (.builtin id) xs σ₁ fun r σ₂ => Q r l₁ σ₂) (hp : es.all plainE = true := by rfl) (hd : (x == ("__debug__" : Str)) = false := by decide +kernel) (hm : x ≠ "__name__" := by decide +kernel) :
    Ev c (.Call (.Name x np) es [] pos) loc σ Q := fun s f => by
  refine Call_ (raw_builtin O f hk e hv ?_ hd hm)
  refine callWith_builtin (star_any hp) ?_
  exact raw_args hp f h fun us xs l₁ σ₁ h₁ tk₁ r q f₁ S₁ => raw_call (fp := []) (first := []) O q f₁ S₁ .nil r
/-- a built-in class, by its name -/
theorem Ev_CallT (O : c.Ok n) {x : Str} {np pos : Pos} {es : List Expr} {T : String} {Q} (hk : c.env.kindOf x = some .globalImplicit) (e : nsIn c.K mainGlobals x = some none) (hv : bootBuiltins x = some (.type T))
    (h : Evs c pos es loc σ fun xs l₁ σ₁ => Fn c.toGx n (.type T) xs σ₁ fun r σ₂ => Q r l₁ σ₂) (hp : es.all plainE = true := by rfl) (hd : (x == ("__debug__" : Str)) = false := by decide +kernel) (hm : x ≠ "__name__" := by decide +kernel) :
    Ev c (.Call (.Name x np) es [] pos) loc σ Q := fun s f => by
  refine Call_ (raw_builtin O f hk e hv ?_ hd hm)
  refine PySem.callWith_type (star_any hp) ?_
  exact raw_args hp f h fun us xs l₁ σ₁ h₁ tk₁ r q f₁ S₁ => raw_call (fp := []) (first := []) O q f₁ S₁ .nil r
/-- the entries of an object's dict -/
theorem getL_rep {h : Heap} {name : Str} : ∀ {es : List DictEntry} {m : List (Str × PV)}, All2 (fun (e : DictEntry) (q : Str × PV) => (∃ t, e.key = .str q.1 t) ∧ PRep h e.val q.2) es m →
    match lkp name m with
    | some pv => ∃ v, getL name es = some (some v) ∧ PRep h v pv
    | none => getL name es = some none := by
  intro es m r
  have any : es.any (·.refKey) = false := by
    induction r with
    | nil => rfl
    | cons a _ ih => obtain ⟨⟨t, hk⟩, _⟩ := a; rw [List.any_cons, ih]; simp [DictEntry.refKey, hk]
  have find : match lkp name m with
      | some pv => ∃ e, es.find? (·.key.isStr name) = some e ∧ PRep h e.val pv
      | none => es.find? (·.key.isStr name) = none := by
    clear any
    induction r with
    | nil => rfl
    | @cons e q es m a _ ih =>
      obtain ⟨⟨t, hk⟩, hr⟩ := a
      obtain ⟨y, pv⟩ := q
      simp only [lkp, List.find?_cons]
      have hs : e.key.isStr name = decide (name = y) := by
        rw [hk]; show (y == name) = _
        by_cases hy : name = y
        · simp [hy]
        · have : ¬ y = name := fun z => hy z.symm
          simp [hy, this]
      rw [hs]
      by_cases hy : name = y
      · simp only [hy, if_true, decide_true]; exact ⟨e, rfl, hr⟩
      · simp only [if_neg hy, decide_eq_false hy]; exact ih
  unfold getL
  cases hl : lkp name m with
  | some pv =>
    rw [hl] at find
    obtain ⟨e, he, hr⟩ := find
    rw [he]; exact ⟨e.val, rfl, hr⟩
  | none =>
    rw [hl] at find
    rw [find, any]; rfl
theorem inst_at {x C dx : Addr} {m : List (Str × PV)} {h : Heap} {es : List DictEntry} {k : Nat} (f : FRel c loc σ h) (hx : σ x = some (.inst C dx)) (he : h.get? dx = some (dictOf es k)) :
    InstAt h x (instObj C dx) C (some (dictOf es k)) := ⟨f.H.rep _ _ hx, rfl, rfl, he⟩
theorem handed_rep {h : Heap} {v : Value} {pv : PV} (r : PRep h v pv) : handedIn v = true := by
  cases pv with
  | r a => obtain rfl : v = .ref a := r; rfl
  | rng a b => obtain ⟨_, _, _, _, rfl, _⟩ := r; rfl
  | d d =>
    have r : Reads h v d [] := r
    cases r <;> rfl
/-- a field of an own object -/
theorem Op1_attr (O : c.Ok n) {x C dx : Addr} {m : List (Str × PV)} {name : Str} {pv : PV} {Q} (hx : σ x = some (.inst C dx)) (hd : σ dx = some (.ns m)) (hm : lkp name m = some pv)
    (hg : plainGet c.K C name = true) (hh : hasDictIn c.K C = true) (ha : findIn c.K (.ref C) name = some none) (h : Q pv loc σ) : Op1 c (fun v => getAttr v name true) PRep (.r x) loc σ Q := fun s u f r => by
  obtain rfl : u = .ref x := r
  obtain ⟨es, k, he, re⟩ := f.H.rep _ _ hd
  have g := getL_rep (name := name) re
  rw [hm] at g
  obtain ⟨v, g1, g2⟩ := g
  refine get_value (O.X.keeps f.H.keep) (inst_at (m := m) f hx he) (plainGet_of hg).1 (findObj_own hh ha (by rfl) g1) (handed_rep g2) ?_
  exact .same f g2 h
/-- a method of an own object -/
theorem Ev_CallM (O : c.Ok n) {o : Expr} {name : Str} {apos pos : Pos} {es : List Expr} {pl : Sem Bool} {Q}
    (h : Ev c o loc σ fun ov l₁ σ₁ => ∃ x C dx m f, ov = .r x ∧ σ₁ x = some (.inst C dx) ∧ σ₁ dx = some (.ns m) ∧ lkp name m = none ∧ plainGet c.K C name = true ∧ findIn c.K (.ref C) name = some (some (.ref f)) ∧ isFn c.K (.ref f) = true ∧ keepIn c.K (.ref f) = true ∧
      Evs c pos es l₁ σ₁ fun xs l₂ σ₂ => Fn c.toGx n (.ref f) (.r x :: xs) σ₂ fun r σ₃ => Q r l₂ σ₃)
    (he : eval (.Call (.Attribute o name apos) es [] pos) c.env = (do
      let ov ← eval o c.env
      standAt apos.atName
      let (f, first) ← holding [ov] (getMethod ov name pl)
      callWith pos f first (backTo pos (starEach es c.env)) []) := by rfl) (hp : es.all plainE = true := by rfl) : Ev c (.Call (.Attribute o name apos) es [] pos) loc σ Q := fun s f => by
  refine MethodCall_ ?_ he
  refine h.use f fun u ov l₁ σ₁ h₁ tk₁ r q f₁ S₁ => ?_
  obtain ⟨x, C, dx, m, fn, rfl, hx, hd, hm, hg, hf, ht, hk, q⟩ := q
  obtain rfl : u = .ref x := r
  obtain ⟨es', k, he', re⟩ := f₁.H.rep _ _ hd
  have g := getL_rep (name := name) re
  rw [hm] at g
  have X₁ : c.K.In h₁ := O.X.keeps f₁.H.keep
  refine method_fn (s := { s with heap := h₁, toks := tk₁ }) X₁ (inst_at (m := m) f₁ hx he') (plainGet_of hg).1 (plainGet_of hg).2 hf (beq_iff_eq.mp ht) (by show (lookIn name (dictOf es' k)).map _ = _; rw [lookIn_dict, g]; rfl) ?_
  refine callWith_of (by rw [star_any hp]; rfl) (keeps_K hk) ?_
  refine raw_args hp f₁ q fun us xs l₂ σ₂ h₂ tk₂ r q₂ f₂ S₂ => ⟨O.X.keeps f₂.H.keep, ?_⟩
  exact raw_call (s := s) (fp := [.r x]) (first := [.ref x]) O q₂ f₂ (S₁.trans S₂) (.cons (mk_ref _ _) .nil) r
/-- a method of a built-in object -/
theorem Ev_CallMB (O : c.Ok n) {o : Expr} {name : Str} {apos pos : Pos} {es : List Expr} {pl : Sem Bool} {id : String} {Q}
    (h : Ev c o loc σ fun ov l₁ σ₁ => (∀ h₁ u, FRel c l₁ σ₁ h₁ → PRep h₁ u ov → ∀ (s : Shared) (Q' : Value × List Value → Shared → Prop), s.heap = h₁ → Q' (.builtin id, [u]) s → wpAny (model c.prog c.w) c.A (getMethod u name pl) Q' NoE s) ∧
      Evs c pos es l₁ σ₁ fun xs l₂ σ₂ => Fn c.toGx n (.builtin id) (ov :: xs) σ₂ fun r σ₃ => Q r l₂ σ₃)
    (he : eval (.Call (.Attribute o name apos) es [] pos) c.env = (do
      let ov ← eval o c.env
      standAt apos.atName
      let (f, first) ← holding [ov] (getMethod ov name pl)
      callWith pos f first (backTo pos (starEach es c.env)) []) := by rfl) (hp : es.all plainE = true := by rfl) : Ev c (.Call (.Attribute o name apos) es [] pos) loc σ Q := fun s f => by
  refine MethodCall_ ?_ he
  refine h.use f fun u ov l₁ σ₁ h₁ tk₁ r q f₁ S₁ => ?_
  obtain ⟨gm, q⟩ := q
  refine gm h₁ u f₁ r _ _ rfl ?_
  refine callWith_builtin (star_any hp) ?_
  refine raw_args hp f₁ q fun us xs l₂ σ₂ h₂ tk₂ r₂ q₂ f₂ S₂ => ?_
  exact raw_call (s := s) (fp := [ov]) (first := [u]) O q₂ f₂ (S₁.trans S₂) (.cons (r.tk (f₁.tk O S₂)) .nil) r₂
end
end SFw5
section SFw6
/-- data without bools, floats, lists, dicts: == is equality -/
noncomputable def nice : Nat → PyData → Bool
  | _, .none => true
  | _, .int _ => true
  | _, .str x => PyData.strOk x
  | n + 1, .tuple ds => ds.all (nice n)
  | _, _ => false
theorem nice_lay : ∀ (n : Nat) (d : PyData), nice n d = true → d.canLay0 = true ∧ d.depth ≤ n := by
  have all : ∀ (n : Nat), (∀ d, nice n d = true → d.canLay0 = true ∧ d.depth ≤ n) → ∀ ds : List PyData, (∀ d ∈ ds, nice n d = true) → PyData.canLayAll0 ds = true ∧ PyData.depthAll ds ≤ n := by
    intro n ih ds
    induction ds with
    | nil => intro _; simp [PyData.canLayAll0, PyData.depthAll]
    | cons d ds hi =>
      intro h
      have h1 := ih d (h d (.head _))
      have h2 := hi fun e he => h e (.tail _ he)
      simp only [PyData.canLayAll0, PyData.depthAll, h1.1, h2.1, Bool.and_self, true_and]
      have a1 := h1.2
      have a2 := h2.2
      lia
  intro n
  induction n with
  | zero =>
    intro d h
    cases d <;> simp_all [nice, PyData.canLay0, PyData.depth]
  | succ n ih =>
    intro d h
    cases d with
    | tuple ds =>
      have q := all n ih ds (by simpa [nice] using h)
      have q2 := q.2
      simp only [PyData.canLay0, PyData.depth, q.1, true_and]
      lia
    | _ => simp_all [nice, PyData.canLay0, PyData.depth]
theorem nice_layAll {n : Nat} {ds : List PyData} (h : ∀ d ∈ ds, nice n d = true) : PyData.canLayAll0 ds = true ∧ PyData.depthAll ds ≤ n := by
  induction ds with
  | nil => simp [PyData.canLayAll0, PyData.depthAll]
  | cons d ds hi =>
    have h1 := nice_lay n d (h d (.head _))
    have h2 := hi fun e he => h e (.tail _ he)
    simp only [PyData.canLayAll0, PyData.depthAll, h1.1, h2.1, Bool.and_self, true_and]
    have a1 := h1.2
    have a2 := h2.2
    lia
theorem nice_eqv : ∀ (n : Nat) (d e : PyData) (k : Nat), nice n d = true → nice k e = true → (PyData.eqv d e = true ↔ d = e) := by
  have all : ∀ (n : Nat), (∀ d e k, nice n d = true → nice k e = true → (PyData.eqv d e = true ↔ d = e)) → ∀ (k : Nat) (ds es : List PyData), (∀ d ∈ ds, nice n d = true) → (∀ d ∈ es, nice k d = true) →
      (PyData.eqvAll ds es = true ↔ ds = es) := by
    intro n ih k ds
    induction ds with
    | nil => intro es _ _; cases es <;> simp [PyData.eqvAll]
    | cons d ds hi =>
      intro es h1 h2
      cases es with
      | nil => simp [PyData.eqvAll]
      | cons e es =>
        have q1 := ih d e k (h1 d (.head _)) (h2 e (.head _))
        have q2 := hi es (fun x hx => h1 x (.tail _ hx)) fun x hx => h2 x (.tail _ hx)
        simp only [PyData.eqvAll, Bool.and_eq_true, q1, q2, List.cons.injEq]
  intro n
  induction n with
  | zero =>
    intro d e k h1 h2
    cases d <;> cases e <;> cases k <;> simp_all [nice, PyData.eqv]
  | succ n ih =>
    intro d e k h1 h2
    cases d with
    | tuple ds =>
      cases e with
      | tuple es =>
        cases k with
        | zero => simp [nice] at h2
        | succ k =>
          simp only [PyData.eqv, PyData.tuple.injEq]
          exact all n ih k ds es (by simpa [nice] using h1) (by simpa [nice] using h2)
      | _ => cases k <;> simp_all [nice, PyData.eqv]
    | _ => cases e <;> cases k <;> simp_all [nice, PyData.eqv]
theorem nice_eqvAll {n k : Nat} : ∀ {ds es : List PyData}, (∀ d ∈ ds, nice n d = true) → (∀ d ∈ es, nice k d = true) → (PyData.eqvAll ds es = true ↔ ds = es)
  | [], es, _, _ => by cases es <;> simp [PyData.eqvAll]
  | d :: ds, [], _, _ => by simp [PyData.eqvAll]
  | d :: ds, e :: es, h1, h2 => by
    have q1 := nice_eqv n d e k (h1 d (.head _)) (h2 e (.head _))
    have q2 := nice_eqvAll (ds := ds) (es := es) (fun x hx => h1 x (.tail _ hx)) fun x hx => h2 x (.tail _ hx)
    simp only [PyData.eqvAll, Bool.and_eq_true, q1, q2, List.cons.injEq]
theorem nice_shaped {n : Nat} {d : PyData} (h : nice n d = true) (hn : n ≤ 60) : SeqAt.shaped d = true := by
  have l := nice_lay n d h
  unfold SeqAt.shaped
  rw [l.1, Bool.true_and]; exact decide_eq_true (Nat.le_trans l.2 (by lia))
theorem nice_shapedL {n : Nat} {ds : List PyData} (h : ∀ d ∈ ds, nice n d = true) (hn : n ≤ 60) : SeqAt.shaped (.list ds) = true := by
  have l := nice_layAll h
  unfold SeqAt.shaped
  simp only [PyData.canLay0, PyData.depth]
  rw [l.1, Bool.true_and]; exact decide_eq_true (by have := l.2; lia)
section
variable {c : Cx} {n : Nat} {loc : Loc} {σ : Hp}
/- ints -/
theorem Op2_add {a b : Int} {Q} (h : Q (.d (.int (a + b))) loc σ) : Op2 c (binaryOp .Add) PRep (.d (.int a)) (.d (.int b)) loc σ Q := fun s u v f ru rv => by
  obtain ⟨t, rfl⟩ := prep_int ru; obtain ⟨t', rfl⟩ := prep_int rv
  exact P.add_int (.same f (mk_int _ _ _) h)
theorem Op2_iadd {a b : Int} {Q} (h : Q (.d (.int (a + b))) loc σ) : Op2 c (inplaceOp .Add) PRep (.d (.int a)) (.d (.int b)) loc σ Q := fun s u v f ru rv => by
  obtain ⟨t, rfl⟩ := prep_int ru; obtain ⟨t', rfl⟩ := prep_int rv
  exact P.iadd_int (.same f (mk_int _ _ _) h)
theorem Op2_sub {a b : Int} {Q} (h : Q (.d (.int (a - b))) loc σ) : Op2 c (binaryOp .Sub) PRep (.d (.int a)) (.d (.int b)) loc σ Q := fun s u v f ru rv => by
  obtain ⟨t, rfl⟩ := prep_int ru; obtain ⟨t', rfl⟩ := prep_int rv
  exact P.sub_int (.same f (mk_int _ _ _) h)
theorem Op2_mod {a b : Int} {Q} (hb : b ≠ 0) (h : Q (.d (.int (a.fmod b))) loc σ) : Op2 c (binaryOp .Mod) PRep (.d (.int a)) (.d (.int b)) loc σ Q := fun s u v f ru rv => by
  obtain ⟨t, rfl⟩ := prep_int ru; obtain ⟨t', rfl⟩ := prep_int rv
  exact mod_int' hb (.same f (mk_int _ _ _) h)
theorem Op2_div {a b : Int} {Q} (hb : b ≠ 0) (hp : Builtin.divisionGoesByPylong a b = false) (h : Q (.d (.int (a.fdiv b))) loc σ) : Op2 c (binaryOp .FloorDiv) PRep (.d (.int a)) (.d (.int b)) loc σ Q := fun s u v f ru rv => by
  obtain ⟨t, rfl⟩ := prep_int ru; obtain ⟨t', rfl⟩ := prep_int rv
  exact floordiv_int hb (.same f (mk_int _ _ _) h) (.inl hp)
theorem Op2_pow {a b : Int} {Q} (hn : 0 ≤ b) (hn2 : b ≤ 1000000) (ha : a.natAbs < 2 ^ 64) (h : Q (.d (.int (a ^ b.toNat))) loc σ) : Op2 c (binaryOp .Pow) PRep (.d (.int a)) (.d (.int b)) loc σ Q := fun s u v f ru rv => by
  obtain ⟨t, rfl⟩ := prep_int ru; obtain ⟨t', rfl⟩ := prep_int rv
  exact pow_int_small hn hn2 ha (.same f (mk_int _ _ _) h)
theorem Op1_neg {a : Int} {Q} (h : Q (.d (.int (-a))) loc σ) : Op1 c (unaryOp .USub) PRep (.d (.int a)) loc σ Q := fun s u f ru => by
  obtain ⟨t, rfl⟩ := prep_int ru
  exact P.neg_int (.same f (mk_int _ _ _) h)
theorem Op2_lt {a b : Int} {Q} (h : Q (.d (.bool (decide (a < b)))) loc σ) : Op2 c (compareOp .Lt) PRep (.d (.int a)) (.d (.int b)) loc σ Q := fun s u v f ru rv => by
  obtain ⟨t, rfl⟩ := prep_int ru; obtain ⟨t', rfl⟩ := prep_int rv
  exact P.lt_int (.same0 f (mk_bool _ _) h)
theorem Op2_le {a b : Int} {Q} (h : Q (.d (.bool (decide (a ≤ b)))) loc σ) : Op2 c (compareOp .LtE) PRep (.d (.int a)) (.d (.int b)) loc σ Q := fun s u v f ru rv => by
  obtain ⟨t, rfl⟩ := prep_int ru; obtain ⟨t', rfl⟩ := prep_int rv
  exact P.le_int (.same0 f (mk_bool _ _) h)
theorem Op2_gt {a b : Int} {Q} (h : Q (.d (.bool (decide (a > b)))) loc σ) : Op2 c (compareOp .Gt) PRep (.d (.int a)) (.d (.int b)) loc σ Q := fun s u v f ru rv => by
  obtain ⟨t, rfl⟩ := prep_int ru; obtain ⟨t', rfl⟩ := prep_int rv
  exact P.gt_int (.same0 f (mk_bool _ _) h)
theorem Op2_ge {a b : Int} {Q} (h : Q (.d (.bool (decide (a ≥ b)))) loc σ) : Op2 c (compareOp .GtE) PRep (.d (.int a)) (.d (.int b)) loc σ Q := fun s u v f ru rv => by
  obtain ⟨t, rfl⟩ := prep_int ru; obtain ⟨t', rfl⟩ := prep_int rv
  exact P.ge_int (.same0 f (mk_bool _ _) h)
/- data: == -/
theorem Op2_eq (O : c.Ok n) {x y : PyData} {Q} (hx : nice 20 x = true) (hy : nice 20 y = true) (h : ∀ b, (b = true ↔ x = y) → Q (.d (.bool b)) loc σ) : Op2 c (compareOp .Eq) PRep (.d x) (.d y) loc σ Q := fun s u v f ru rv =>
  eq_dataH (da := x) (db := y) ru rv (nice_shaped hx (by lia)) (nice_shaped hy (by lia)) (by have := O.units; lia) (.same0 f (mk_bool _ _) (h _ (nice_eqv _ _ _ _ hx hy)))
theorem Op2_ne (O : c.Ok n) {x y : PyData} {Q} (hx : nice 20 x = true) (hy : nice 20 y = true) (h : ∀ b, (b = true ↔ x ≠ y) → Q (.d (.bool b)) loc σ) : Op2 c (compareOp .NotEq) PRep (.d x) (.d y) loc σ Q := fun s u v f ru rv =>
  ne_dataH (da := x) (db := y) ru rv (nice_shaped hx (by lia)) (nice_shaped hy (by lia)) (by have := O.units; lia) (.same0 f (mk_bool _ _) (h _ (by
    have := nice_eqv _ _ _ _ hx hy
    rw [Bool.not_eq_true', ← Bool.not_eq_true, this])))
theorem reads_list {a : Addr} {xs : List PyData} {h : Heap} (f : HRel c.prog c.w c.base σ h) (ha : σ a = some (.list (xs.map .d))) : Reads h (.ref a) (.list xs) [a] := by
  obtain ⟨vs, k, hl, r⟩ := f.rep a _ ha
  exact .list hl rfl rfl (by simpa using readsAll_of r)
theorem Op2_eqL (O : c.Ok n) {a b : Addr} {xs ys : List PyData} {Q} (ha : σ a = some (.list (xs.map .d))) (hb : σ b = some (.list (ys.map .d))) (hx : ∀ d ∈ xs, nice 20 d = true) (hy : ∀ d ∈ ys, nice 20 d = true)
    (h : ∀ b, (b = true ↔ xs = ys) → Q (.d (.bool b)) loc σ) : Op2 c (compareOp .Eq) PRep (.r a) (.r b) loc σ Q := fun s u v f ru rv => by
  obtain rfl : u = .ref a := ru
  obtain rfl : v = .ref b := rv
  refine eq_dataH (reads_list f.H ha) (reads_list f.H hb) (nice_shapedL hx (by lia)) (nice_shapedL hy (by lia)) (by have := O.units; lia) (.same0 f (mk_bool _ _) (h _ ?_))
  simp only [PyData.eqv]; exact nice_eqvAll hx hy
theorem Op2_neL (O : c.Ok n) {a b : Addr} {xs ys : List PyData} {Q} (ha : σ a = some (.list (xs.map .d))) (hb : σ b = some (.list (ys.map .d))) (hx : ∀ d ∈ xs, nice 20 d = true) (hy : ∀ d ∈ ys, nice 20 d = true)
    (h : ∀ b, (b = true ↔ xs ≠ ys) → Q (.d (.bool b)) loc σ) : Op2 c (compareOp .NotEq) PRep (.r a) (.r b) loc σ Q := fun s u v f ru rv => by
  obtain rfl : u = .ref a := ru
  obtain rfl : v = .ref b := rv
  refine ne_dataH (reads_list f.H ha) (reads_list f.H hb) (nice_shapedL hx (by lia)) (nice_shapedL hy (by lia)) (by have := O.units; lia) (.same0 f (mk_bool _ _) (h _ ?_))
  have := nice_eqvAll hx hy
  simp only [PyData.eqv]
  rw [Bool.not_eq_true', ← Bool.not_eq_true, this]
theorem Op2_in (O : c.Ok n) {a : Addr} {x : PyData} {ys : List PyData} {Q} (ha : σ a = some (.list (ys.map .d))) (hx : nice 20 x = true) (hy : ∀ d ∈ ys, nice 20 d = true)
    (h : ∀ b, (b = true ↔ x ∈ ys) → Q (.d (.bool b)) loc σ) : Op2 c (compareOp .In) PRep (.d x) (.r a) loc σ Q := fun s u v f ru rv => by
  obtain rfl : v = .ref a := rv
  have l := nice_layAll hy
  have lx := nice_lay _ _ hx
  refine SeqAt.in_list_reads (reads_list f.H ha) ru l.1 lx.1 (by have := O.units; have := l.2; lia) (.same0 f (mk_bool _ _) (h _ ?_))
  rw [List.any_eq_true]
  exact ⟨fun ⟨y, hm, e⟩ => (nice_eqv _ _ _ _ (hy y hm) hx).mp e ▸ hm, fun hm => ⟨x, hm, (nice_eqv _ _ _ _ hx hx).mpr rfl⟩⟩
theorem Op2_notin (O : c.Ok n) {a : Addr} {x : PyData} {ys : List PyData} {Q} (ha : σ a = some (.list (ys.map .d))) (hx : nice 20 x = true) (hy : ∀ d ∈ ys, nice 20 d = true)
    (h : ∀ b, (b = true ↔ x ∉ ys) → Q (.d (.bool b)) loc σ) : Op2 c (compareOp .NotIn) PRep (.d x) (.r a) loc σ Q := fun s u v f ru rv => by
  obtain rfl : v = .ref a := rv
  have l := nice_layAll hy
  have lx := nice_lay _ _ hx
  refine SeqAt.notIn_list_reads (reads_list f.H ha) ru l.1 lx.1 (by have := O.units; have := l.2; lia) (.same0 f (mk_bool _ _) (h _ ?_))
  have : (ys.any fun y => PyData.eqv y x) = true ↔ x ∈ ys := by
    rw [List.any_eq_true]
    exact ⟨fun ⟨y, hm, e⟩ => (nice_eqv _ _ _ _ (hy y hm) hx).mp e ▸ hm, fun hm => ⟨x, hm, (nice_eqv _ _ _ _ hx hx).mpr rfl⟩⟩
  rw [Bool.not_eq_true', ← Bool.not_eq_true, this]
theorem Op2_inT (O : c.Ok n) {x : PyData} {ys : List PyData} {Q} (hx : nice 20 x = true) (hy : ∀ d ∈ ys, nice 20 d = true)
    (h : ∀ b, (b = true ↔ x ∈ ys) → Q (.d (.bool b)) loc σ) : Op2 c (compareOp .In) PRep (.d x) (.d (.tuple ys)) loc σ Q := fun s u v f ru rv => by
  have l := nice_layAll hy
  have lx := nice_lay _ _ hx
  refine SeqAt.in_tuple_reads rv ru l.1 lx.1 (by have := O.units; have := l.2; lia) (.same0 f (mk_bool _ _) (h _ ?_))
  rw [List.any_eq_true]
  exact ⟨fun ⟨y, hm, e⟩ => (nice_eqv _ _ _ _ (hy y hm) hx).mp e ▸ hm, fun hm => ⟨x, hm, (nice_eqv _ _ _ _ hx hx).mpr rfl⟩⟩
theorem Op2_notinT (O : c.Ok n) {x : PyData} {ys : List PyData} {Q} (hx : nice 20 x = true) (hy : ∀ d ∈ ys, nice 20 d = true)
    (h : ∀ b, (b = true ↔ x ∉ ys) → Q (.d (.bool b)) loc σ) : Op2 c (compareOp .NotIn) PRep (.d x) (.d (.tuple ys)) loc σ Q := fun s u v f ru rv => by
  have l := nice_layAll hy
  have lx := nice_lay _ _ hx
  refine SeqAt.notIn_tuple_reads rv ru l.1 lx.1 (by have := O.units; have := l.2; lia) (.same0 f (mk_bool _ _) (h _ ?_))
  have : (ys.any fun y => PyData.eqv y x) = true ↔ x ∈ ys := by
    rw [List.any_eq_true]
    exact ⟨fun ⟨y, hm, e⟩ => (nice_eqv _ _ _ _ (hy y hm) hx).mp e ▸ hm, fun hm => ⟨x, hm, (nice_eqv _ _ _ _ hx hx).mpr rfl⟩⟩
  rw [Bool.not_eq_true', ← Bool.not_eq_true, this]
/-- is None -/
theorem Op2_isNone {x : PV} {Q} (h : Q (.d (.bool (match x with | .d .none => true | _ => false))) loc σ) : Op2 c (compareOp .Is) PRep x (.d .none) loc σ Q := fun s u v f ru rv => by
  obtain rfl := prep_none rv
  refine is_none (.same0 f ?_ h)
  cases x with
  | r a => obtain rfl : u = .ref a := ru; exact mk_bool _ _
  | rng a b => obtain ⟨_, _, _, _, rfl, _⟩ := ru; exact mk_bool _ _
  | d d =>
    have ru : Reads s.heap u d [] := ru
    cases ru <;> exact mk_bool _ _
/- subscripts -/
theorem Op2_idxL {a : Addr} {xs : List PV} {k : Int} {pv : PV} {e i : Expr} {Q} (ha : σ a = some (.list xs)) (h0 : 0 ≤ k) (hk : k < 2 ^ 63) (hx : xs[k.toNat]? = some pv) (h : Q pv loc σ)
    (hs : ∀ o j, subscripted i false o j = operate [o, j] (getItem o j) := by intro _ _; rfl) : Op2 c (subscriptTail e i) PRep (.r a) (.d (.int k)) loc σ Q := fun s u v f ru rv => by
  obtain rfl : u = .ref a := ru
  obtain ⟨t, rfl⟩ := prep_int rv
  obtain ⟨vs, m, hl, r⟩ := f.H.rep a _ ha
  obtain ⟨v, hv, rv⟩ := r.get hx
  exact tail_any hl.isList.typeIs slot_list_getitem.lookup (wpAny_getItem_list hl.isList h0 hk (by simpa using hv) (.same0 f rv h)) (hs _ _)
theorem Op2_idxLneg {a : Addr} {xs : List PV} {k : Int} {pv : PV} {e i : Expr} {Q} (ha : σ a = some (.list xs)) (h0 : k < 0) (h1 : -(xs.length : Int) ≤ k) (hk : -(2 ^ 63) ≤ k) (hx : xs[(k + xs.length).toNat]? = some pv) (h : Q pv loc σ)
    (hs : ∀ o j, subscripted i false o j = operate [o, j] (getItem o j) := by intro _ _; rfl) : Op2 c (subscriptTail e i) PRep (.r a) (.d (.int k)) loc σ Q := fun s u v f ru rv => by
  obtain rfl : u = .ref a := ru
  obtain ⟨t, rfl⟩ := prep_int rv
  obtain ⟨vs, m, hl, r⟩ := f.H.rep a _ ha
  obtain ⟨v, hv, rv⟩ := r.get hx
  have e1 : vs.toArray.size = xs.length := by rw [List.size_toArray, r.length]
  exact tail_any hl.isList.typeIs slot_list_getitem.lookup (wpAny_getItem_list_neg hl.isList h0 (by rw [e1]; exact h1) hk (by rw [e1]; simpa using hv) (.same0 f rv h)) (hs _ _)
theorem Op2_idxT {ds : List PyData} {k : Int} {d : PyData} {e i : Expr} {Q} (h0 : 0 ≤ k) (hk : k < 2 ^ 63) (hx : ds[k.toNat]? = some d) (h : Q (.d d) loc σ)
    (hs : ∀ o j, subscripted i false o j = operate [o, j] (getItem o j) := by intro _ _; rfl) : Op2 c (subscriptTail e i) PRep (.d (.tuple ds)) (.d (.int k)) loc σ Q := fun s u v f ru rv => by
  obtain ⟨t, rfl⟩ := prep_int rv
  have ru : Reads s.heap u (.tuple ds) [] := ru
  cases ru with
  | tuple ho hc hd r =>
    rename_i a o vs m
    have r' := of_readsAll r rfl
    obtain ⟨v, hv, rv⟩ := r'.get (i := k.toNat) (b := .d d) (by simp [hx])
    have ht : IsTup s.heap a vs := ⟨o, ho, hc, m, hd⟩
    have hlt : k.toNat < vs.size := by
      have := (List.getElem?_eq_some_iff.mp hv).1
      simpa using this
    refine tail_any ht.typeIs slot_tuple_getitem.lookup (getItem_tuple ht (by lia) hk (j := k.toNat) ?_ (by simpa using hv) (.same0 f rv h)) (hs _ _)
    unfold seqIndex?
    simp only [show ¬ k < 0 by lia, if_false]
    rw [if_pos (by simp only [Bool.and_eq_true, decide_eq_true_eq]; lia)]
/- dicts -/
theorem low_of {a : Addr} {mo : MO} {h : Heap} (O : c.Ok n) (f : FRel c loc σ h) (ha : σ a = some mo) : (a == sysModules) = false := by
  have h1 := f.H.new a mo ha
  have h2 := O.low
  rw [beq_eq_false_iff_ne]
  intro e
  have e' : a = (1 : Nat) := e
  have h3 : (3 : Nat) ≤ a := Nat.le_trans h2 h1
  rw [e'] at h3
  exact absurd h3 (by decide)
noncomputable def lkD {K : Type} [DecidableEq K] (k : K) : List (K × PV) → Option PV
  | [] => none
  | (y, v) :: r => if y = k then some v else lkD k r
noncomputable def stD {K : Type} [DecidableEq K] (k : K) (v : PV) (l : List (K × PV)) : List (K × PV) := if (lkD k l).isSome then l.map fun p => if p.1 = k then (p.1, v) else p else l ++ [(k, v)]
theorem valueAt_rep {K : Type} [DecidableEq K] {h : Heap} {k : K} : ∀ {vs : List (K × Value)} {kvs : List (K × PV)}, All2 (KRep h) vs kvs →
    match lkD k kvs with | some pv => ∃ v, valueAt vs k = some v ∧ PRep h v pv | none => valueAt vs k = none
  | _, _, .nil => rfl
  | _, _, .cons (a := p) (b := q) ⟨e, r⟩ t => by
    have ih := valueAt_rep (k := k) t
    obtain ⟨x, v⟩ := p
    obtain ⟨y, pv⟩ := q
    obtain rfl : x = y := e
    simp only [lkD, valueAt, List.find?_cons] at ih ⊢
    by_cases hk : x = k
    · simp only [hk, if_true, decide_true, Option.map_some]; exact ⟨v, rfl, r⟩
    · simp only [if_neg hk, decide_eq_false hk]; exact ih
theorem stored_rep {K : Type} [DecidableEq K] {h : Heap} {k : K} {v : Value} {pv : PV} (r : PRep h v pv) {vs : List (K × Value)} {kvs : List (K × PV)} (a : All2 (KRep h) vs kvs) : All2 (KRep h) (stored vs k v) (stD k pv kvs) := by
  have e : (vs.any fun kv => decide (kv.1 = k)) = (lkD k kvs).isSome := by
    induction a with
    | nil => rfl
    | @cons p q _ _ x t ih =>
      obtain ⟨y, u⟩ := p
      obtain ⟨z, w⟩ := q
      obtain ⟨e, _⟩ := x
      obtain rfl : y = z := e
      rw [List.any_cons, ih]
      simp only [lkD]
      by_cases hk : y = k
      · simp [hk]
      · simp [hk]
  unfold stored stD
  rw [e]
  cases (lkD k kvs).isSome with
  | false => exact a.append (.cons ⟨rfl, r⟩ .nil)
  | true =>
    simp only [if_true]
    clear e
    induction a with
    | nil => exact .nil
    | @cons p q _ _ x t ih =>
      obtain ⟨y, u⟩ := p
      obtain ⟨z, w⟩ := q
      obtain ⟨e, rr⟩ := x
      obtain rfl : y = z := e
      simp only [List.map_cons]
      refine .cons ?_ ih
      by_cases hk : y = k
      · simp only [hk, if_true]; exact ⟨rfl, r⟩
      · simp only [if_neg hk]; exact ⟨rfl, rr⟩
end
end SFw6
section SFw7
section
variable {g : Gx} {n : Nat} {σ : Hp} {Q : PV → Hp → Prop}
theorem FPost.same {s : Shared} {v : Value} {pv : PV} {tk : Nat} (R : HRel g.prog g.w g.base σ s.heap) (r : PRep s.heap v pv) (q : Q pv σ) : FPost g Q σ s v { s with toks := tk } :=
  ⟨pv, σ, s.heap, tk, rfl, r, q, R, .refl fun _ x => x.elim⟩
theorem FPost.upd {s : Shared} {v : Value} {pv : PV} {a : Addr} {mo mo' : MO} {h' : Heap} {tk : Nat} (R : HRel g.prog g.w g.base σ s.heap) (ha : σ a = some mo) (k : ∀ b o, b ≠ a → s.heap.get? b = some o → h'.get? b = some o) (hs : g.base.objs.size ≤ h'.objs.size)
    (o : ORep g.prog g.w h' a mo') (r : PRep h' v pv) (q : Q pv (setH σ a mo')) : FPost g Q σ s v { s with heap := h', toks := tk } :=
  ⟨pv, _, h', tk, rfl, r, q, R.upd ha k hs o, .upd (fun _ x => x.elim) ha k⟩
theorem FPost.alloc {s : Shared} {v : Value} {pv : PV} {a : Addr} {mo' : MO} {h' : Heap} {tk : Nat} (R : HRel g.prog g.w g.base σ s.heap) (ha : s.heap.objs.size ≤ a) (k : ∀ b o, s.heap.get? b = some o → h'.get? b = some o)
    (hs : g.base.objs.size ≤ h'.objs.size) (o : ORep g.prog g.w h' a mo') (r : PRep h' v pv) (q : σ a = none → Q pv (setH σ a mo')) : FPost g Q σ s v { s with heap := h', toks := tk } :=
  ⟨pv, _, h', tk, rfl, r, q (R.fresh (get_size_none _ ha)), R.alloc k (Nat.le_trans R.size ha) hs o, .alloc (fun _ x => x.elim) id (get_size_none _ ha) k⟩
theorem FPost.keeps {s : Shared} {v : Value} {pv : PV} {h' : Heap} {tk : Nat} (R : HRel g.prog g.w g.base σ s.heap) (k : ∀ b o, s.heap.get? b = some o → h'.get? b = some o) (hs : g.base.objs.size ≤ h'.objs.size)
    (r : PRep h' v pv) (q : Q pv σ) : FPost g Q σ s v { s with heap := h', toks := tk } :=
  ⟨pv, _, h', tk, rfl, r, q, R.keeps k hs, .keeps (fun _ x => x.elim) k⟩
theorem HRel.tkU {p : Program} {w : World} {base : Heap} {h h' : Heap} {a : Addr} {mo : MO} (R : HRel p w base σ h) (ha : σ a = some mo) (k : ∀ b o, b ≠ a → h.get? b = some o → h'.get? b = some o) : TupKeep h h' := fun b o e i =>
  k b o (fun z => by
    obtain ⟨ob, e2, c2⟩ := (R.rep a mo ha).here
    rw [z, e2] at e; cases e; exact c2 i) e
theorem HRel.sizeU {p : Program} {w : World} {base : Heap} {h h' : Heap} {a : Addr} {mo : MO} (R : HRel p w base σ h) (ha : σ a = some mo) (k : ∀ o, h.get? a = some o → ∃ o', h'.get? a = some o') : base.objs.size ≤ h'.objs.size := by
  obtain ⟨ob, e2, c2⟩ := (R.rep a mo ha).here
  obtain ⟨o', e3⟩ := k ob e2
  exact Nat.le_of_lt (Nat.lt_of_le_of_lt (R.new a mo ha) (Heap.lt_size e3))
theorem args1 {h : Heap} {vs : List Value} {x : PV} (p : All2 (PRep h) vs [x]) : ∃ u, vs = [u] ∧ PRep h u x := by
  cases p with | cons a t => cases t; exact ⟨_, rfl, a⟩
theorem args2 {h : Heap} {vs : List Value} {x y : PV} (p : All2 (PRep h) vs [x, y]) : ∃ u v, vs = [u, v] ∧ PRep h u x ∧ PRep h v y := by
  cases p with | cons a t => cases t with | cons b t => cases t; exact ⟨_, _, rfl, a, b⟩
theorem args3 {h : Heap} {vs : List Value} {x y z : PV} (p : All2 (PRep h) vs [x, y, z]) : ∃ u v w, vs = [u, v, w] ∧ PRep h u x ∧ PRep h v y ∧ PRep h w z := by
  cases p with | cons a t => cases t with | cons b t => cases t with | cons c t => cases t; exact ⟨_, _, _, rfl, a, b, c⟩
theorem Fn_len {a : Addr} {xs : List PV} (ha : σ a = some (.list xs)) (hz : xs.length < 2 ^ 62) (h : Q (.d (.int xs.length)) σ) : Fn g n (.builtin "len") [.r a] σ Q := fun A s vs oa R p => by
  obtain ⟨u, rfl, ru⟩ := args1 p
  obtain rfl : u = .ref a := ru
  obtain ⟨vs, k, hl, r⟩ := R.rep a _ ha
  have e : vs.toArray.size = xs.length := by rw [List.size_toArray, r.length]
  exact call_len_list hl.isList (by rw [e]; lia) (by rw [e]; exact FPost.same R (mk_int _ _ _) h)
theorem Fn_lenT {ds : List PyData} (hz : ds.length < 2 ^ 62) (h : Q (.d (.int ds.length)) σ) : Fn g n (.builtin "len") [.d (.tuple ds)] σ Q := fun A s vs oa R p => by
  obtain ⟨u, rfl, ru⟩ := args1 p
  have ru : Reads s.heap u (.tuple ds) [] := ru
  cases ru with
  | tuple ho hc hd r =>
    rename_i a o vs m
    have r' := of_readsAll r rfl
    have e : vs.size = ds.length := by have := r'.length; simpa using this
    exact len_tuple (⟨o, ho, hc, m, hd⟩ : IsTup s.heap a vs) (by rw [e]; lia) (by rw [e]; exact FPost.same R (mk_int _ _ _) h)
theorem Fn_append {a : Addr} {xs : List PV} {x : PV} (ha : σ a = some (.list xs)) (hz : xs.length ≤ 1000000) (h : Q (.d .none) (setH σ a (.list (xs ++ [x])))) : Fn g n (.builtin "list.append") [.r a, x] σ Q := fun A s vs oa R p => by
  obtain ⟨u, v, rfl, ru, rv⟩ := args2 p
  obtain rfl : u = .ref a := ru
  obtain ⟨vs, k, hl, r⟩ := R.rep a _ ha
  have e : vs.toArray.size = xs.length := by rw [List.size_toArray, r.length]
  refine call_meets F.slot_list_append ⟨_, hl, rfl⟩ F.entry_list_append (F.args_list_append_2 _ _) (PySem.list_append a vs.toArray k v (by rw [e, sizeLine_eq]; lia)) ⟨hl, ?_⟩
  have hs := Heap.SameBut.update s.heap a (Obj.mapSeq fun x => x.push v)
  have k' : ∀ b o, b ≠ a → s.heap.get? b = some o → (s.heap.update a (Obj.mapSeq fun x => x.push v)).get? b = some o := fun b o hb e => (hs.2 b hb).trans e
  have tk : TupKeep s.heap (s.heap.update a (Obj.mapSeq fun x => x.push v)) := R.tkU ha k'
  have h2 : PySem.IsL (s.heap.update a (Obj.mapSeq fun x => x.push v)) a (vs.toArray.push v) _ := hl.update fun x => x.push v
  rw [show vs.toArray.push v = (vs ++ [v]).toArray from by simp] at h2
  exact FPost.upd (mo' := .list (xs ++ [x])) R ha k' (by rw [hs.1]; exact R.size) ⟨vs ++ [v], _, h2, (all2_tk tk r).append (.cons (rv.tk tk) .nil)⟩ (mk_none _) h
theorem Fn_pop {a : Addr} {xs : List PV} {x : PV} (ha : σ a = some (.list (xs ++ [x]))) (hz : xs.length ≤ 1000000) (h : Q x (setH σ a (.list xs))) : Fn g n (.builtin "list.pop") [.r a] σ Q := fun A s vs oa R p => by
  obtain ⟨u, rfl, ru⟩ := args1 p
  obtain rfl : u = .ref a := ru
  obtain ⟨vs, k, hl, r⟩ := R.rep a _ ha
  have e : vs.length = xs.length + 1 := by rw [r.length, List.length_append]; rfl
  obtain ⟨y, hy, ry⟩ := r.get (i := xs.length) (b := x) (by simp)
  have hy' : vs.toArray[vs.toArray.size - 1]? = some y := by rw [List.size_toArray, e]; simpa using hy
  refine call_meets F.slot_list_pop ⟨_, hl, rfl⟩ F.entry_list_pop (F.args_list_pop_1 _) (MeetsSeq.list_pop_last a vs.toArray k y hy' (by rw [List.size_toArray, e, sizeLine_eq]; lia)) ⟨hl, ?_⟩
  have hs := Heap.SameBut.update s.heap a (Obj.mapSeq fun xs => xs.eraseIdxIfInBounds (vs.toArray.size - 1))
  have k' : ∀ b o, b ≠ a → s.heap.get? b = some o → (s.heap.update a (Obj.mapSeq fun xs => xs.eraseIdxIfInBounds (vs.toArray.size - 1))).get? b = some o := fun b o hb e => (hs.2 b hb).trans e
  have tk : TupKeep s.heap (s.heap.update a (Obj.mapSeq fun xs => xs.eraseIdxIfInBounds (vs.toArray.size - 1))) := R.tkU ha k'
  have h2 : PySem.IsL (s.heap.update a (Obj.mapSeq fun xs => xs.eraseIdxIfInBounds (vs.toArray.size - 1))) a (vs.toArray.eraseIdxIfInBounds (vs.toArray.size - 1)) _ := hl.update fun xs => xs.eraseIdxIfInBounds (vs.toArray.size - 1)
  have e3 : vs.toArray.eraseIdxIfInBounds (vs.toArray.size - 1) = (vs.take xs.length).toArray := by
    rw [List.size_toArray, e]
    apply Array.toList_inj.mp
    simp only [Nat.add_sub_cancel, List.eraseIdxIfInBounds_toArray]
    rw [List.eraseIdx_eq_take_drop_succ, List.drop_of_length_le (by lia), List.append_nil]
  generalize hh : s.heap.update a (Obj.mapSeq fun xs => xs.eraseIdxIfInBounds (vs.toArray.size - 1)) = H at *
  rw [e3] at h2
  refine FPost.upd (mo' := .list xs) R ha k' (by rw [hs.1]; exact R.size) ⟨vs.take xs.length, _, h2, ?_⟩ (ry.tk tk) h
  have := (all2_tk tk r).take xs.length
  simpa using this
theorem Fn_reverse {a : Addr} {xs : List PV} (ha : σ a = some (.list xs)) (hz : xs.length ≤ 1000000) (h : Q (.d .none) (setH σ a (.list xs.reverse))) : Fn g n (.builtin "list.reverse") [.r a] σ Q := fun A s vs oa R p => by
  obtain ⟨u, rfl, ru⟩ := args1 p
  obtain rfl : u = .ref a := ru
  obtain ⟨vs, k, hl, r⟩ := R.rep a _ ha
  have e : vs.toArray.size = xs.length := by rw [List.size_toArray, r.length]
  refine call_meets F.slot_list_reverse ⟨_, hl, rfl⟩ F.entry_list_reverse (F.args_list_reverse_1 _) (AutoSeq1.list_reverse_list_0 a vs.toArray k (by rw [e, sizeLine_eq]; lia)) ⟨hl, ?_⟩
  have hs := Heap.SameBut.update s.heap a (Obj.mapSeq fun x => x.reverse)
  have k' : ∀ b o, b ≠ a → s.heap.get? b = some o → (s.heap.update a (Obj.mapSeq fun x => x.reverse)).get? b = some o := fun b o hb e => (hs.2 b hb).trans e
  have tk : TupKeep s.heap (s.heap.update a (Obj.mapSeq fun x => x.reverse)) := R.tkU ha k'
  have h2 : PySem.IsL (s.heap.update a (Obj.mapSeq fun x => x.reverse)) a vs.toArray.reverse _ := hl.update fun x => x.reverse
  rw [show vs.toArray.reverse = vs.reverse.toArray from by simp] at h2
  exact FPost.upd (mo' := .list xs.reverse) R ha k' (by rw [hs.1]; exact R.size) ⟨vs.reverse, _, h2, (all2_tk tk r).reverse⟩ (mk_none _) h
/-- the first place of a datum -/
theorem Fn_index {a : Addr} {ys : List PyData} {x : PyData} {j : Nat} (ha : σ a = some (.list (ys.map .d))) (hz : ys.length ≤ 1000000) (hx : nice 20 x = true) (hy : ∀ d ∈ ys, nice 20 d = true) (hj : ys[j]? = some x) (hf : ∀ i, i < j → ys[i]? ≠ some x)
    (h : Q (.d (.int j)) σ) : Fn g n (.builtin "list.index") [.r a, .d x] σ Q := fun A s vs oa R p => by
  obtain ⟨u, v, rfl, ru, rv⟩ := args2 p
  obtain rfl : u = .ref a := ru
  obtain ⟨vs, k, hl, r⟩ := R.rep a _ ha
  have e : vs.toArray.size = ys.length := by rw [List.size_toArray, r.length, List.length_map]
  have l := nice_layAll hy
  have lx := nice_lay _ _ hx
  have rs := readsAll_of r
  have hlt : j < ys.length := (List.getElem?_eq_some_iff.mp hj).1
  have at_ : ∀ i (hi : i < vs.toArray.size), ∃ d, ys[i]? = some d ∧ SeqAt.readOf s.heap vs.toArray[i] = d := fun i hi => by
    have hi' : i < ys.length := by rw [← e]; exact hi
    obtain ⟨w, hw, rw_⟩ := r.get (i := i) (b := .d ys[i]) (by simp [hi'])
    refine ⟨ys[i], by simp [hi'], ?_⟩
    have : vs.toArray[i] = w := by
      have h2 : vs[i]? = some vs.toArray[i] := by simp
      rw [hw] at h2; exact (Option.some.inj h2).symm
    rw [this]
    exact SeqAt.readOf_eq (nice_lay _ _ (hy _ (List.getElem_mem hi'))).1 rw_
  refine call_meets F.slot_list_index ⟨_, hl, rfl⟩ F.entry_list_index (F.args_list_index_2 _ _)
    (SeqAt.list_indexAt a vs.toArray k none #[] v (fun y => PyData.eqv (SeqAt.readOf s.heap y) x) j (by rw [e]; exact hlt) (by lia) ?_ ?_) ⟨hl, ?_, FPost.same R (mk_int _ _ _) h⟩
  · obtain ⟨d, hd, hr⟩ := at_ j (by rw [e]; exact hlt)
    rw [hj] at hd; cases hd
    show PyData.eqv (SeqAt.readOf s.heap _) x = true
    rw [hr]; exact (nice_eqv _ _ _ _ hx hx).mpr rfl
  · intro i hi hij
    obtain ⟨d, hd, hr⟩ := at_ i hi
    show PyData.eqv (SeqAt.readOf s.heap _) x = false
    rw [hr, ← Bool.not_eq_true, nice_eqv _ _ _ _ (hy d (List.mem_of_getElem? hd)) hx]
    rintro rfl
    exact hf i hij hd
  · exact SeqAt.items_eqAt (as := []) (by simpa using rs) rv l.1 lx.1 (by have := oa.units; have := l.2; lia)
theorem Fn_tuple {a : Addr} {ds : List PyData} (ha : σ a = some (.list (ds.map .d))) (hz : ds.length ≤ 1000000) (h : Q (.d (.tuple ds)) σ) : Fn g n (.type "tuple") [.r a] σ Q := fun A s vs oa R p => by
  obtain ⟨u, rfl, ru⟩ := args1 p
  obtain rfl : u = .ref a := ru
  obtain ⟨vs, k, hl, r⟩ := R.rep a _ ha
  have e : vs.toArray.size = ds.length := by rw [List.size_toArray, r.length, List.length_map]
  refine call_tuple_list hl.isList (fun h' hk => ?_) (by rw [e, sizeLine_eq]; lia)
  have k2 : ∀ b o, s.heap.get? b = some o → (h'.push { cls := .type "tuple", data := .seq vs.toArray }).get? b = some o := fun b o e => Heap.get?_push_of_some _ (hk b o e)
  have hs := R.sizeU ha (fun o e => ⟨o, k2 a o e⟩)
  refine FPost.keeps (tk := s.toks) R k2 hs ?_ h
  exact reads_tuple_at (Heap.get?_push_size _ rfl) rfl rfl (readsAll_of (by simpa using all2_tk (TupKeep.of_keep k2) r))
theorem Fn_list {a : Addr} {xs : List PV} (ha : σ a = some (.list xs)) (hz : xs.length ≤ 1000000) (h : ∀ b, σ b = none → Q (.r b) (setH σ b (.list xs))) : Fn g n (.type "list") [.r a] σ Q := fun A s vs oa R p => by
  obtain ⟨u, rfl, ru⟩ := args1 p
  obtain rfl : u = .ref a := ru
  obtain ⟨vs, k, hl, r⟩ := R.rep a _ ha
  have e : vs.toArray.size = xs.length := by rw [List.size_toArray, r.length]
  refine call_list_seq a (.inl rfl) hl rfl rfl (fun h' c' hk hD => ?_) (by rw [e, sizeLine_eq]; lia)
  exact FPost.alloc (mo' := .list xs) (tk := s.toks) R (Nat.le_refl _) hk (R.sizeU ha fun o e => ⟨o, hk a o e⟩) ⟨vs, _, hD, all2_tk (.of_keep hk) r⟩ (mk_ref _ _) (h _)
noncomputable def upto (a b : Int) : List Int := (List.range (b - a).toNat).map fun i => a + (i : Nat)
theorem Fn_listRange {a b : Int} (ha : -(2 ^ 60) ≤ a) (ha' : a < 2 ^ 60) (hb : -(2 ^ 60) ≤ b) (hb' : b < 2 ^ 60) (hz : (b - a).toNat ≤ 1000000) (h : ∀ d, σ d = none → Q (.r d) (setH σ d (.list ((upto a b).map fun i => .d (.int i))))) :
    Fn g n (.type "list") [.rng a b] σ Q := fun A s vs oa R p => by
  obtain ⟨u, rfl, ru⟩ := args1 p
  obtain ⟨r, t, u', z, rfl, hr⟩ := ru
  refine call_list_range oa.hh hr (small_one (by lia) (by lia) (by lia) (by lia)) (rangeSize_nat a b) (by lia) fun h' tk acc' c' hk hD hi => ?_
  have hs : g.base.objs.size ≤ h'.objs.size := Nat.le_of_lt (Nat.lt_of_le_of_lt R.size (Heap.lt_size hD))
  refine FPost.alloc (mo' := .list ((upto a b).map fun i => .d (.int i))) (tk := tk) R (Nat.le_refl _) hk hs ⟨acc'.toList, c', by simpa using hD, ?_⟩ (mk_ref _ _) (h _)
  obtain ⟨hsz, hit⟩ := hi
  have gen : ∀ (l : List Value) (k : Nat) (m : Nat), l.length = m → (∀ (i : Nat) (v : Value), l[i]? = some v → ∃ t, v = Value.int (a + ((k + i : Nat) : Int) * 1) t) →
      All2 (PRep h') l (((List.range' k m).map fun i => a + ((i : Nat) : Int)).map fun i => PV.d (PyData.int i)) := by
    intro l
    induction l with
    | nil => intro k m hm _; subst hm; simp; exact .nil
    | cons v l ih =>
      intro k m hm hv
      subst hm
      simp only [List.length_cons, List.range'_succ, List.map_cons]
      obtain ⟨t, rfl⟩ := hv 0 v (by simp)
      refine .cons ?_ (ih (k + 1) l.length rfl fun i w hw => ?_)
      · have := mk_int h' (a + (k : Nat)) t
        simpa using this
      · obtain ⟨t, rfl⟩ := hv (i + 1) w (by simpa using hw)
        exact ⟨t, by congr 3; lia⟩
  have := gen acc'.toList 0 (b - a).toNat (by simpa using hsz) fun i v hv => by
    obtain ⟨t, rfl⟩ := hit i v (by simpa using hv)
    exact ⟨t, by simp⟩
  rw [← List.range_eq_range'] at this
  exact this
theorem Fn_range1 {b : Int} (h : Q (.rng 0 b) σ) : Fn g n (.type "range") [.d (.int b)] σ Q := fun A s vs oa R p => by
  obtain ⟨u, rfl, ru⟩ := args1 p
  obtain ⟨t, rfl⟩ := prep_int ru
  refine call_range_1 ?_
  exact FPost.keeps (pv := .rng 0 b) R (fun b o e => Heap.get?_push_of_some _ e) (by rw [Heap.size_push]; exact Nat.le_succ_of_le R.size) ⟨_, _, _, _, rfl, IsRange.new ..⟩ h
theorem Fn_range2 {a b : Int} (h : Q (.rng a b) σ) : Fn g n (.type "range") [.d (.int a), .d (.int b)] σ Q := fun A s vs oa R p => by
  obtain ⟨u, v, rfl, ru, rv⟩ := args2 p
  obtain ⟨t, rfl⟩ := prep_int ru
  obtain ⟨t', rfl⟩ := prep_int rv
  refine call_range_2 ?_
  exact FPost.keeps (pv := .rng a b) R (fun b o e => Heap.get?_push_of_some _ e) (by rw [Heap.size_push]; exact Nat.le_succ_of_le R.size) ⟨_, _, _, _, rfl, IsRange.new ..⟩ h
end
end SFw7
section SFw8
theorem is_int {prog : Program} {w : World} (k : Int) (t : Tok) : (intKind prog w).is k (.int k t) = true := by simp [intKind, Value.isInt]
theorem is_str {prog : Program} {w : World} (k : Str) (t : Tok) : (strKind prog w).is k (.str k t) = true := strKind_is prog w k t
theorem tup_inv {h : Heap} {v : Value} {ds : List PyData} : Reads h v (.tuple ds) [] → ∃ a o vs m, v = .ref a ∧ h.get? a = some o ∧ o.cls = .type "tuple" ∧ o.data = .seq vs m ∧ All2 (PRep h) vs.toList (ds.map .d)
  | .tuple ho hc hd r => ⟨_, _, _, _, rfl, ho, hc, hd, of_readsAll r rfl⟩
theorem items_are {prog : Program} {w : World} {h : Heap} : ∀ {ks : List Int} {l : List Value}, All2 (PRep h) l ((ks.map PyData.int).map .d) → ItemsAre (intKind prog w) ks l
  | [], _, .nil => .nil
  | k :: ks, _, .cons a t => by obtain ⟨u, rfl⟩ := prep_int a; exact .cons (is_int k u) (items_are t)
theorem tupleKey_of {prog : Program} {w : World} {h : Heap} {v : Value} {ks : List Int} (r : PRep h v (.d (.tuple (ks.map .int)))) : ∃ a, v = .ref a ∧ IsTupleKey (intKind prog w) h ks a := by
  obtain ⟨a, o, vs, m, e, ho, hc, hd, r'⟩ := tup_inv r
  exact ⟨a, e, o, vs, m, ho, hc, hd, items_are r'⟩
theorem atKey_rep {h : Heap} {k : List Int} : ∀ {vs : List (List Int × Addr × Value)} {kvs : List (List Int × PV)}, All2 (TRep h) vs kvs →
    match lkD k kvs with | some pv => ∃ p, atKey vs k = some p ∧ PRep h p.2 pv | none => atKey vs k = none
  | _, _, .nil => rfl
  | _, _, .cons (a := p) (b := q) ⟨e, r⟩ t => by
    have ih := atKey_rep (k := k) t
    obtain ⟨x, v⟩ := p
    obtain ⟨y, pv⟩ := q
    obtain rfl : x = y := e
    simp only [lkD, atKey, List.find?_cons] at ih ⊢
    by_cases hk : x = k
    · simp only [hk, if_true, decide_true, Option.map_some]; exact ⟨v, rfl, r⟩
    · simp only [if_neg hk, decide_eq_false hk]; exact ih
theorem storedH_rep {h : Heap} {k : List Int} {a : Addr} {v : Value} {pv : PV} (r : PRep h v pv) {vs : List (List Int × Addr × Value)} {kvs : List (List Int × PV)} (x : All2 (TRep h) vs kvs) : All2 (TRep h) (storedH vs k a v) (stD k pv kvs) := by
  have e : (atKey vs k).isSome = (lkD k kvs).isSome := by
    have := atKey_rep (k := k) x
    cases q : lkD k kvs with
    | none => rw [q] at this; rw [this]; rfl
    | some pv => rw [q] at this; obtain ⟨p, e, _⟩ := this; rw [e]; rfl
  unfold storedH stD
  rw [e]
  cases (lkD k kvs).isSome with
  | false => exact x.append (.cons ⟨rfl, r⟩ .nil)
  | true =>
    simp only [if_true]
    clear e
    induction x with
    | nil => exact .nil
    | @cons p q _ _ x t ih =>
      obtain ⟨y, u⟩ := p
      obtain ⟨z, w⟩ := q
      obtain ⟨e, rr⟩ := x
      obtain rfl : y = z := e
      simp only [List.map_cons]
      refine .cons ?_ ih
      unfold putAt
      by_cases hk : y = k
      · simp only [hk, if_true]; exact ⟨rfl, r⟩
      · simp only [if_neg hk]; exact ⟨rfl, rr⟩
section
variable {c : Cx} {n : Nat} {loc : Loc} {σ : Hp}
theorem Ev_DictS (O : c.Ok n) {pos} {Q} (h : ∀ a, σ a = none → Q (.r a) loc (setH σ a (.dS []))) : Ev c (.Dict [] [] pos) loc σ Q := fun s f =>
  wpAny_Dict_empty (by
    have k : ∀ b o, s.heap.get? b = some o → (s.heap.push { cls := .type "dict", data := .dict #[] }).get? b = some o := fun b o e => Heap.get?_push_of_some _ e
    exact ⟨.r _, loc, _, _, s.toks, rfl, mk_ref _ _, h _ (f.H.fresh (get_size_none _ (Nat.le_refl _))), f.alloc O (Nat.le_refl _) k ⟨[], Heap.DictOf.new _, .nil⟩, .alloc f.offF (f.notF O (Nat.le_refl _)) (get_size_none _ (Nat.le_refl _)) k⟩)
theorem Ev_DictI (O : c.Ok n) {pos} {Q} (h : ∀ a, σ a = none → Q (.r a) loc (setH σ a (.dI []))) : Ev c (.Dict [] [] pos) loc σ Q := fun s f =>
  wpAny_Dict_empty (by
    have k : ∀ b o, s.heap.get? b = some o → (s.heap.push { cls := .type "dict", data := .dict #[] }).get? b = some o := fun b o e => Heap.get?_push_of_some _ e
    exact ⟨.r _, loc, _, _, s.toks, rfl, mk_ref _ _, h _ (f.H.fresh (get_size_none _ (Nat.le_refl _))), f.alloc O (Nat.le_refl _) k ⟨[], Heap.DictOf.new _, .nil⟩, .alloc f.offF (f.notF O (Nat.le_refl _)) (get_size_none _ (Nat.le_refl _)) k⟩)
theorem Ev_DictT (O : c.Ok n) {pos} {Q} (h : ∀ a, σ a = none → Q (.r a) loc (setH σ a (.dT []))) : Ev c (.Dict [] [] pos) loc σ Q := fun s f =>
  wpAny_Dict_empty (by
    have k : ∀ b o, s.heap.get? b = some o → (s.heap.push { cls := .type "dict", data := .dict #[] }).get? b = some o := fun b o e => Heap.get?_push_of_some _ e
    exact ⟨.r _, loc, _, _, s.toks, rfl, mk_ref _ _, h _ (f.H.fresh (get_size_none _ (Nat.le_refl _))), f.alloc O (Nat.le_refl _) k ⟨[], Heap.DictOfH.new _, .nil⟩, .alloc f.offF (f.notF O (Nat.le_refl _)) (get_size_none _ (Nat.le_refl _)) k⟩)
theorem isSome_rep {K : Type} [DecidableEq K] {h : Heap} {k : K} {vs : List (K × Value)} {kvs : List (K × PV)} (r : All2 (KRep h) vs kvs) : (valueAt vs k).isSome = (lkD k kvs).isSome := by
  have := valueAt_rep (k := k) r
  cases q : lkD k kvs with
  | none => rw [q] at this; rw [this]; rfl
  | some pv => rw [q] at this; obtain ⟨p, e, _⟩ := this; rw [e]; rfl
theorem isSomeT_rep {h : Heap} {k : List Int} {vs : List (List Int × Addr × Value)} {kvs : List (List Int × PV)} (r : All2 (TRep h) vs kvs) : (atKey vs k).isSome = (lkD k kvs).isSome := by
  have := atKey_rep (k := k) r
  cases q : lkD k kvs with
  | none => rw [q] at this; rw [this]; rfl
  | some pv => rw [q] at this; obtain ⟨p, e, _⟩ := this; rw [e]; rfl
theorem Op2_inDI (O : c.Ok n) {a : Addr} {k : Int} {kvs : List (Int × PV)} {Q} (ha : σ a = some (.dI kvs)) (h : Q (.d (.bool (lkD k kvs).isSome)) loc σ) : Op2 c (compareOp .In) PRep (.d (.int k)) (.r a) loc σ Q := fun s u v f ru rv => by
  obtain rfl : v = .ref a := rv
  obtain ⟨t, rfl⟩ := prep_int ru
  obtain ⟨vs, hd, r⟩ := f.H.rep a _ ha
  exact wpAny_in_of (is_int k t) (low_of O f ha) hd.mapOf (by rw [isSome_rep r]; exact .same f (mk_bool _ _) h)
theorem Op2_notinDI (O : c.Ok n) {a : Addr} {k : Int} {kvs : List (Int × PV)} {Q} (ha : σ a = some (.dI kvs)) (h : Q (.d (.bool (!(lkD k kvs).isSome))) loc σ) : Op2 c (compareOp .NotIn) PRep (.d (.int k)) (.r a) loc σ Q := fun s u v f ru rv => by
  obtain rfl : v = .ref a := rv
  obtain ⟨t, rfl⟩ := prep_int ru
  obtain ⟨vs, hd, r⟩ := f.H.rep a _ ha
  exact wpAny_notIn_of (is_int k t) (low_of O f ha) hd.mapOf (by rw [isSome_rep r]; exact .same f (mk_bool _ _) h)
theorem Op2_inDT (O : c.Ok n) {a : Addr} {k : List Int} {kvs : List (List Int × PV)} {Q} (ha : σ a = some (.dT kvs)) (h : Q (.d (.bool (lkD k kvs).isSome)) loc σ) : Op2 c (compareOp .In) PRep (.d (.tuple (k.map .int))) (.r a) loc σ Q := fun s u v f ru rv => by
  obtain rfl : v = .ref a := rv
  obtain ⟨b, rfl, tk⟩ := tupleKey_of (prog := c.prog) (w := c.w) ru
  obtain ⟨vs, hd, r⟩ := f.H.rep a _ ha
  exact wpAny_in_heap (knd := tupleKind (intKind c.prog c.w)) (tupleKind_room_in1 (by have := O.units; lia)) tk (low_of O f ha) hd (by rw [isSomeT_rep r]; exact .same f (mk_bool _ _) h)
theorem Op2_notinDT (O : c.Ok n) {a : Addr} {k : List Int} {kvs : List (List Int × PV)} {Q} (ha : σ a = some (.dT kvs)) (h : Q (.d (.bool (!(lkD k kvs).isSome))) loc σ) : Op2 c (compareOp .NotIn) PRep (.d (.tuple (k.map .int))) (.r a) loc σ Q := fun s u v f ru rv => by
  obtain rfl : v = .ref a := rv
  obtain ⟨b, rfl, tk⟩ := tupleKey_of (prog := c.prog) (w := c.w) ru
  obtain ⟨vs, hd, r⟩ := f.H.rep a _ ha
  exact wpAny_notIn_heap (knd := tupleKind (intKind c.prog c.w)) (tupleKind_room_in1 (by have := O.units; lia)) tk (low_of O f ha) hd (by rw [isSomeT_rep r]; exact .same f (mk_bool _ _) h)
theorem Op2_idxDI {a : Addr} {k : Int} {kvs : List (Int × PV)} {pv : PV} {e i : Expr} {Q} (ha : σ a = some (.dI kvs)) (hk : lkD k kvs = some pv) (h : Q pv loc σ)
    (hs : ∀ o j, subscripted i false o j = operate [o, j] (getItem o j) := by intro _ _; rfl) : Op2 c (subscriptTail e i) PRep (.r a) (.d (.int k)) loc σ Q := fun s u v f ru rv => by
  obtain rfl : u = .ref a := ru
  obtain ⟨t, rfl⟩ := prep_int rv
  obtain ⟨vs, hd, r⟩ := f.H.rep a _ ha
  have := valueAt_rep (k := k) r
  rw [hk] at this
  obtain ⟨v, hv, rv⟩ := this
  exact tail_any hd.typeIs slot_dict_getitem.lookup (wpAny_getItem_of (is_int k t) hd.mapOf hv (.same f rv h)) (hs _ _)
theorem Op2_idxDT (O : c.Ok n) {a : Addr} {k : List Int} {kvs : List (List Int × PV)} {pv : PV} {e i : Expr} {Q} (ha : σ a = some (.dT kvs)) (hk : lkD k kvs = some pv) (h : Q pv loc σ)
    (hs : ∀ o j, subscripted i false o j = operate [o, j] (getItem o j) := by intro _ _; rfl) : Op2 c (subscriptTail e i) PRep (.r a) (.d (.tuple (k.map .int))) loc σ Q := fun s u v f ru rv => by
  obtain rfl : u = .ref a := ru
  obtain ⟨b, rfl, tk⟩ := tupleKey_of (prog := c.prog) (w := c.w) rv
  obtain ⟨vs, hd, r⟩ := f.H.rep a _ ha
  have := atKey_rep (k := k) r
  rw [hk] at this
  obtain ⟨p, hp, rp⟩ := this
  exact tail_any hd.typeIs slot_dict_getitem.lookup (wpAny_getItem_heap (knd := tupleKind (intKind c.prog c.w)) (tupleKind_room_in1 (by have := O.units; lia)) tk hd hp (.same f rp h)) (hs _ _)
/- stores -/
theorem Op3_setDI (O : c.Ok n) {a : Addr} {k : Int} {kvs : List (Int × PV)} {x : PV} {Q : Unit → Loc → Hp → Prop} (ha : σ a = some (.dI kvs)) (hz : kvs.length ≤ 1000000) (h : Q () loc (setH σ a (.dI (stD k x kvs)))) :
    Op3 c (fun ov iv v => setItem ov iv v) (fun _ _ _ => True) (.r a) (.d (.int k)) x loc σ Q := fun s u v w f ru rv rw_ => by
  obtain rfl : u = .ref a := ru
  obtain ⟨t, rfl⟩ := prep_int rv
  obtain ⟨vs, hd, r⟩ := f.H.rep a _ ha
  refine wpAny_setItem_pairs (is_int k t) hd (fun h' hd' hs => ?_) (by rw [r.length, sizeLine_eq]; lia)
  have k' : ∀ b o, b ≠ a → s.heap.get? b = some o → h'.get? b = some o := fun b o hb e => (hs.2 b hb).trans e
  have tk := f.H.tkU ha k'
  exact ⟨(), loc, _, h', _, rfl, trivial, h, f.upd O ha k' ⟨_, hd', stored_rep (rw_.tk tk) (r.mono fun _ _ ⟨a, b⟩ => ⟨a, b.tk tk⟩)⟩, .upd f.offF ha k'⟩
theorem Op3_setDS (O : c.Ok n) {a : Addr} {k : Str} {kvs : List (Str × PV)} {x : PV} {Q : Unit → Loc → Hp → Prop} (ha : σ a = some (.dS kvs)) (hz : kvs.length ≤ 1000000) (h : Q () loc (setH σ a (.dS (stD k x kvs)))) :
    Op3 c (fun ov iv v => setItem ov iv v) (fun _ _ _ => True) (.r a) (.d (.str k)) x loc σ Q := fun s u v w f ru rv rw_ => by
  obtain rfl : u = .ref a := ru
  obtain ⟨t, rfl⟩ := prep_str rv
  obtain ⟨vs, hd, r⟩ := f.H.rep a _ ha
  refine wpAny_setItem_pairs (is_str k t) hd (fun h' hd' hs => ?_) (by rw [r.length, sizeLine_eq]; lia)
  have k' : ∀ b o, b ≠ a → s.heap.get? b = some o → h'.get? b = some o := fun b o hb e => (hs.2 b hb).trans e
  have tk := f.H.tkU ha k'
  exact ⟨(), loc, _, h', _, rfl, trivial, h, f.upd O ha k' ⟨_, hd', stored_rep (rw_.tk tk) (r.mono fun _ _ ⟨a, b⟩ => ⟨a, b.tk tk⟩)⟩, .upd f.offF ha k'⟩
theorem Op3_setDT (O : c.Ok n) {a : Addr} {k : List Int} {kvs : List (List Int × PV)} {x : PV} {Q : Unit → Loc → Hp → Prop} (ha : σ a = some (.dT kvs)) (hz : kvs.length ≤ 1000000) (h : Q () loc (setH σ a (.dT (stD k x kvs)))) :
    Op3 c (fun ov iv v => setItem ov iv v) (fun _ _ _ => True) (.r a) (.d (.tuple (k.map .int))) x loc σ Q := fun s u v w f ru rv rw_ => by
  obtain rfl : u = .ref a := ru
  obtain ⟨b, rfl, tky⟩ := tupleKey_of (prog := c.prog) (w := c.w) rv
  obtain ⟨vs, hd, r⟩ := f.H.rep a _ ha
  refine wpAny_setItem_heap (knd := tupleKind (intKind c.prog c.w)) (tupleKind_room_in1 (by have := O.units; lia)) tky hd (fun h' hd' hs => ?_) (by rw [r.length, sizeLine_eq]; lia)
  have k' : ∀ b o, b ≠ a → s.heap.get? b = some o → h'.get? b = some o := fun b o hb e => (hs.2 b hb).trans e
  have tk := f.H.tkU ha k'
  exact ⟨(), loc, _, h', _, rfl, trivial, h, f.upd O ha k' ⟨_, hd', storedH_rep (rw_.tk tk) (r.mono fun _ _ ⟨a, b⟩ => ⟨a, b.tk tk⟩)⟩, .upd f.offF ha k'⟩
theorem Op3_setLneg (O : c.Ok n) {a : Addr} {xs : List PV} {k : Int} {x : PV} {Q : Unit → Loc → Hp → Prop} (ha : σ a = some (.list xs)) (h0 : k < 0) (h1 : -(xs.length : Int) ≤ k) (hk : -(2 ^ 63) ≤ k) (h : Q () loc (setH σ a (.list (xs.set (k + xs.length).toNat x)))) :
    Op3 c (fun ov iv v => setItem ov iv v) (fun _ _ _ => True) (.r a) (.d (.int k)) x loc σ Q := fun s u v w f ru rv rw_ => by
  obtain rfl : u = .ref a := ru
  obtain ⟨t, rfl⟩ := prep_int rv
  obtain ⟨vs, m, hl, r⟩ := f.H.rep a _ ha
  have e : vs.toArray.size = xs.length := by rw [List.size_toArray, r.length]
  refine ki_setBack hl h0 (by rw [e]; exact h1) hk ?_
  have hs := Heap.SameBut.update s.heap a (Obj.mapSeq (·.setIfInBounds (k + vs.toArray.size).toNat w))
  have k' : ∀ b o, b ≠ a → s.heap.get? b = some o → (s.heap.update a (Obj.mapSeq (·.setIfInBounds (k + vs.toArray.size).toNat w))).get? b = some o := fun b o hb e => (hs.2 b hb).trans e
  have tk := f.H.tkU ha k'
  have h2 : PySem.IsL (s.heap.update a (Obj.mapSeq (·.setIfInBounds (k + vs.toArray.size).toNat w))) a (vs.toArray.setIfInBounds (k + vs.toArray.size).toNat w) _ := hl.update (·.setIfInBounds (k + vs.toArray.size).toNat w)
  rw [show vs.toArray.setIfInBounds (k + vs.toArray.size).toNat w = (vs.set (k + vs.toArray.size).toNat w).toArray from by simp] at h2
  have r2 := (all2_tk tk r).set (rw_.tk tk) (k + vs.toArray.size).toNat
  have e2 : xs.set (k + vs.toArray.size).toNat x = xs.set (k + xs.length).toNat x := by rw [e]
  rw [e2] at r2
  exact ⟨(), loc, _, _, s.toks, rfl, trivial, h, f.upd O ha k' ⟨_, _, h2, r2⟩, .upd f.offF ha k'⟩
/- methods of lists and dicts -/
theorem gm_list {a : Addr} {xs : List PV} {name : Str} {id : String} {pl : Sem Bool} (ha : σ a = some (.list xs)) (slot : Slot "list" name id) (hty : typeOf (.builtin id) = pure (.type "method_descriptor")) :
    ∀ h₁ u, FRel c loc σ h₁ → PRep h₁ u (.r a) → ∀ (s : Shared) (Q' : Value × List Value → Shared → Prop), s.heap = h₁ → Q' (.builtin id, [u]) s → wpAny (model c.prog c.w) c.A (getMethod u name pl) Q' NoE s := by
  rintro h₁ u f ru s Q' rfl q
  obtain rfl : u = .ref a := ru
  obtain ⟨vs, m, hl, r⟩ := f.H.rep a _ ha
  exact getMethod_builtin ⟨_, hl, rfl⟩ PySem.F.plainAttrs_list slot hty (fun b e => by cases e; exact ⟨_, hl, rfl⟩) q
theorem gm_dictS {a : Addr} {kvs : List (Str × PV)} {name : Str} {id : String} {pl : Sem Bool} (ha : σ a = some (.dS kvs)) (slot : Slot "dict" name id) (hty : typeOf (.builtin id) = pure (.type "method_descriptor")) :
    ∀ h₁ u, FRel c loc σ h₁ → PRep h₁ u (.r a) → ∀ (s : Shared) (Q' : Value × List Value → Shared → Prop), s.heap = h₁ → Q' (.builtin id, [u]) s → wpAny (model c.prog c.w) c.A (getMethod u name pl) Q' NoE s := by
  rintro h₁ u f ru s Q' rfl q
  obtain rfl : u = .ref a := ru
  obtain ⟨vs, ⟨o, es, ep, ho, hc, _⟩, r⟩ := f.H.rep a _ ha
  exact getMethod_builtin ⟨_, ho, hc.1⟩ PySem.F.plainAttrs_dict slot hty (fun b e => by cases e; exact ⟨_, ho, hc.2.1⟩) q
theorem gm_dictT {a : Addr} {kvs : List (List Int × PV)} {name : Str} {id : String} {pl : Sem Bool} (ha : σ a = some (.dT kvs)) (slot : Slot "dict" name id) (hty : typeOf (.builtin id) = pure (.type "method_descriptor")) :
    ∀ h₁ u, FRel c loc σ h₁ → PRep h₁ u (.r a) → ∀ (s : Shared) (Q' : Value × List Value → Shared → Prop), s.heap = h₁ → Q' (.builtin id, [u]) s → wpAny (model c.prog c.w) c.A (getMethod u name pl) Q' NoE s := by
  rintro h₁ u f ru s Q' rfl q
  obtain rfl : u = .ref a := ru
  obtain ⟨vs, ⟨o, es, ep, ho, hc, _⟩, r⟩ := f.H.rep a _ ha
  exact getMethod_builtin ⟨_, ho, hc.1⟩ PySem.F.plainAttrs_dict slot hty (fun b e => by cases e; exact ⟨_, ho, hc.2.1⟩) q
end
section
variable {g : Gx} {n : Nat} {σ : Hp} {Q : PV → Hp → Prop}
theorem low_ofH (G : g.Ok) {a : Addr} {mo : MO} {h : Heap} (R : HRel g.prog g.w g.base σ h) (ha : σ a = some mo) : (a == sysModules) = false := by
  have h1 := R.new a mo ha
  have h2 := G.low
  rw [beq_eq_false_iff_ne]
  intro e
  have e' : a = (1 : Nat) := e
  have h3 : (3 : Nat) ≤ a := Nat.le_trans h2 h1
  rw [e'] at h3
  exact absurd h3 (by decide)
theorem Fn_getS (G : g.Ok) {a : Addr} {k : Str} {kvs : List (Str × PV)} {d : PV} (ha : σ a = some (.dS kvs)) (h : Q ((lkD k kvs).getD d) σ) : Fn g n (.builtin "dict.get") [.r a, .d (.str k), d] σ Q := fun A s vs oa R p => by
  obtain ⟨u, v, w, rfl, ru, rv, rw_⟩ := args3 p
  obtain rfl : u = .ref a := ru
  obtain ⟨t, rfl⟩ := prep_str rv
  obtain ⟨vs, hd, r⟩ := R.rep a _ ha
  refine call_meetsIn PySem.F.slot_dict_get hd.typeIs PySem.F.entry_dict_get (PySem.F.args_dict_get_3 _ _ _) (meets_dict_get_default (strKind g.prog g.w) a (is_str k t) (low_ofH G R ha) w) ⟨_, hd.mapOf, ?_⟩
  have := valueAt_rep (k := k) r
  cases q : lkD k kvs with
  | none => rw [q] at this h; rw [this]; exact FPost.same R rw_ h
  | some pv => rw [q] at this h; obtain ⟨x, hx, rx⟩ := this; rw [hx]; exact FPost.same R rx h
theorem Fn_getT (G : g.Ok) {a : Addr} {k : List Int} {kvs : List (List Int × PV)} {d : PV} (ha : σ a = some (.dT kvs)) (h : Q ((lkD k kvs).getD d) σ) : Fn g n (.builtin "dict.get") [.r a, .d (.tuple (k.map .int)), d] σ Q := fun A s vs oa R p => by
  obtain ⟨u, v, w, rfl, ru, rv, rw_⟩ := args3 p
  obtain rfl : u = .ref a := ru
  obtain ⟨b, rfl, tky⟩ := tupleKey_of (prog := g.prog) (w := g.w) rv
  obtain ⟨vs, hd, r⟩ := R.rep a _ ha
  refine call_meetsIn PySem.F.slot_dict_get hd.typeIs PySem.F.entry_dict_get (PySem.F.args_dict_get_3 _ _ _) (meetsH_dict_get_default (tupleKind (intKind g.prog g.w)) a b (low_ofH G R ha) w) ⟨tupleKind_room_in1 (by have := oa.units; lia), k, vs, tky, hd, ?_⟩
  have := atKey_rep (k := k) r
  cases q : lkD k kvs with
  | none => rw [q] at this h; rw [this]; exact FPost.same R rw_ h
  | some pv => rw [q] at this h; obtain ⟨x, hx, rx⟩ := this; rw [hx]; exact FPost.same R rx h
end
end SFw8
section SFw9
theorem raw_setAttr {prog : Program} {w : World} {A : Around} {E : Value → Shared → Prop} {s : Shared} {K : Frag} {x C dx : Addr} {es : List DictEntry} {k : Nat} {name : Str} {v : Value} {Q : Unit → Shared → Prop} (X : K.In s.heap)
    (I : InstAt s.heap x (instObj C dx) C (some (dictOf es k))) (hs : findIn K (.ref C) "__setattr__" = some (some (.builtin "object.__setattr__"))) (hp : plainOver K C = true) (ht : takerIn K C name = some none) (hh : (clsIn K C).any (·.hasDict) = true)
    (hl : (getL name es).isSome = true) (hz : ∀ hsh key, (putL name hsh key v es).length ≤ 1000)
    (h : ∀ h' tk hsh t, h'.get? dx = some (dictOf (putL name hsh (.str name t) v es) (putN name es k)) → Heap.SameBut dx s.heap h' → Q () { s with heap := h', toks := tk }) :
    wpAny (model prog w) A (setAttr (.ref x) name v) Q E s := by
  refine set_plain X I hs ?_
  refine osa_open (s := { s with toks := s.toks + 1 }) X I hp ht fun b => ?_
  obtain ⟨cd, hc, hd'⟩ := any_some hh
  have D : s.heap.get? dx = some (dictOf es k) := I.dict
  have hx := I.at_
  have upd := Heap.get?_update_self (Obj.putName name (PyData.keyHash w.params name) (.str name (s.toks + 1)) v) D (by rw [putName_dict]; rfl)
  rw [putName_dict] at upd
  have fin := h _ (s.toks + 1 + 1) _ _ upd (Heap.SameBut.update ..)
  refine wpAny_bind (wpAny_pure (wpAny_bind (wpAny_bind (wpAny_loadPart hx (wpAny_bind ((looks_clsIn (h := s.heap) X hc) _ _ _ _ (fun _ _ e => e) ?_))))))
  rw [hd']
  refine wpAny_pure (a := some dx) (wpAny_bind (wpAny_pure (wpAny_bind ?_)))
  unfold nsSet
  refine wpAny_bind (wpAny_bind (wpAny_askSetting (wpAny_pure (wpAny_bind (wpAny_mkText (wpAny_bind (wpAny_loadPart D ?_)))))))
  dsimp only
  have c : (!es.toArray.any (·.key.isStr name) && es.toArray.any (·.refKey)) = false := by
    rw [List.any_toArray, List.any_toArray]
    unfold getL at hl
    split at hl
    · rename_i en he
      rw [List.any_eq_true.mpr ⟨en, List.mem_of_find?_eq_some he, List.find?_some he⟩]; rfl
    · split at hl
      · cases hl
      · rename_i z; rw [Bool.not_eq_true] at z; rw [z, Bool.and_false]
  rw [aRefKeyMayBeTheName_at, c]
  refine wpAny_updatePart D ?_
  refine wpAny_bind (wpAny_lookBehind upd (pastItsLine_dict (by rw [List.size_toArray, sizeLine_eq]; have := hz (PyData.keyHash w.params name) (.str name (s.toks + 1)); lia)) ?_)
  exact wpAny_pure fin
theorem putL_rep {h : Heap} {name : Str} {hsh : Int} {t : Tok} {v : Value} {pv : PV} (r : PRep h v pv) : ∀ {es : List DictEntry} {m : List (Str × PV)}, All2 (fun (e : DictEntry) (q : Str × PV) => (∃ t, e.key = .str q.1 t) ∧ PRep h e.val q.2) es m →
    All2 (fun (e : DictEntry) (q : Str × PV) => (∃ t, e.key = .str q.1 t) ∧ PRep h e.val q.2) (putL name hsh (.str name t) v es) (setL name pv m)
  | _, _, .nil => .cons ⟨⟨t, rfl⟩, r⟩ .nil
  | _, _, .cons (a := e) (b := q) (as := es) (bs := m) ⟨⟨u, hk⟩, hr⟩ tl => by
    obtain ⟨y, pw⟩ := q
    simp only [putL, setL]
    have hs : e.key.isStr name = decide (name = y) := by
      rw [hk]; show (y == name) = _
      by_cases hy : name = y
      · simp [hy]
      · have : ¬ y = name := fun z => hy z.symm
        simp [hy, this]
    rw [hs]
    by_cases hy : name = y
    · simp only [hy, decide_true, if_true]; exact .cons ⟨⟨u, hk⟩, r⟩ tl
    · simp only [if_neg hy, decide_eq_false hy, Bool.false_eq_true, if_false]; exact .cons ⟨⟨u, hk⟩, hr⟩ (putL_rep r tl)
theorem putL_len (name : Str) (hsh : Int) (key v : Value) : ∀ es : List DictEntry, (putL name hsh key v es).length ≤ es.length + 1
  | [] => Nat.le_refl _
  | e :: es => by
    simp only [putL]
    split
    · simp
    · simp only [List.length_cons]; exact Nat.succ_le_succ (putL_len name hsh key v es)
section
variable {c : Cx} {n : Nat} {loc : Loc} {σ : Hp}
theorem Op2_setAttr (O : c.Ok n) {x C dx : Addr} {m : List (Str × PV)} {name : Str} {pv : PV} {Q : Unit → Loc → Hp → Prop} (hx : σ x = some (.inst C dx)) (hd : σ dx = some (.ns m)) (hz : m.length ≤ 100)
    (hs : findIn c.K (.ref C) "__setattr__" = some (some (.builtin "object.__setattr__"))) (hp : plainOver c.K C = true) (ht : takerIn c.K C name = some none) (hh : hasDictIn c.K C = true)
    (h : Q () loc (setH σ dx (.ns (setL name pv m)))) : Op2 c (fun ov v => setAttr ov name v) (fun _ _ _ => True) (.r x) pv loc σ Q := fun s u v f ru rv => by
  obtain rfl : u = .ref x := ru
  obtain ⟨es, k, he, re⟩ := f.H.rep _ _ hd
  have g := getL_rep (name := name) re
  have gs : (getL name es).isSome = true := by
    cases q : lkp name m with
    | none => rw [q] at g; rw [g]; rfl
    | some pv => rw [q] at g; obtain ⟨v, g1, _⟩ := g; rw [g1]; rfl
  refine raw_setAttr (O.X.keeps f.H.keep) (inst_at (m := m) f hx he) hs hp ht hh gs (fun hsh key => by have := putL_len name hsh key v es; have := re.length; lia) fun h' tk hsh t e hb => ?_
  have k' : ∀ b o, b ≠ dx → s.heap.get? b = some o → h'.get? b = some o := fun b o hne e => (hb.2 b hne).trans e
  have tk' := f.H.tkU hd k'
  exact ⟨(), loc, _, h', tk, rfl, trivial, h, f.upd O hd k' ⟨_, _, e, putL_rep (rv.tk tk') (re.mono fun _ _ ⟨a, b⟩ => ⟨a, b.tk tk'⟩)⟩, .upd f.offF hd k'⟩
/- slices of lists -/
/-- a list stands at a (in σ, or in the ground) -/
noncomputable def ListAt (c : Cx) (σ : Hp) (a : Addr) (xs : List PV) : Prop := ∀ h, HRel c.prog c.w c.base σ h → ∃ vs : List Value, h.IsList a vs.toArray ∧ All2 (PRep h) vs xs
theorem listAt_σ {a : Addr} {xs : List PV} (ha : σ a = some (.list xs)) : ListAt c σ a xs := fun h R => let ⟨vs, _, hl, r⟩ := R.rep a _ ha; ⟨vs, hl.isList, r⟩
theorem listAt_base {a : Addr} {xs : List PV} {vs : List Value} (hl : c.base.IsList a vs.toArray) (r : All2 (PRep c.base) vs xs) : ListAt c σ a xs := fun h R => ⟨vs, hl.at fun o e => R.keep a o e, all2_tk (.of_keep R.keep) r⟩
theorem Ev_SliceTo (O : c.Ok n) {e hi : Expr} {p pos} {Q} (h : Ev c e loc σ fun x l₁ σ₁ => Ev c hi l₁ σ₁ fun y l₂ σ₂ => ∃ a xs k, x = .r a ∧ y = .d (.int k) ∧ 0 ≤ k ∧ ListAt c σ₂ a xs ∧ xs.length ≤ 10000000 ∧ ∀ b, σ₂ b = none → Q (.r b) l₂ (setH σ₂ b (.list (xs.take k.toNat))))
    (ht : ∀ o r, letTemporaryGo e o r = pure () := by intro _ _; rfl) : Ev c (.Subscript e (.Slice none (some hi) none p) pos) loc σ Q := fun s f => by
  refine wpAny_Subscript_Slice list_getitem_lookup (h.use f fun u x l₁ σ₁ h₁ tk₁ ru q f₁ S₁ => ?_) ht
  refine wpAny_Slice ?_
  rw [evalPart_none]
  refine wpAny_pure ?_
  rw [evalPart_some]
  refine q.use f₁ fun v y l₂ σ₂ h₂ tk₂ rv q₂ f₂ S₂ => ?_
  refine wpAny_pure ?_
  obtain ⟨a, xs, k, rfl, rfl, h0, la, hz, q₂⟩ := q₂
  obtain rfl : u = .ref a := ru
  obtain ⟨t, rfl⟩ := prep_int rv
  obtain ⟨vs, hl, r⟩ := la h₂ f₂.H
  have e1 : vs.length = xs.length := r.length
  refine ⟨(hl.push _).typeIs, ?_⟩
  refine wpAny_getItem_list_slice (hl.push _) (Heap.IsSliceOf.new ..) .none (.int k t) .none (by simp) ?_ (by rw [List.size_toArray, e1, sizeLine_eq]; lia)
  rw [kms_pick_eq]
  have k2 : ∀ b o, h₂.get? b = some o → ((h₂.push { cls := .type "slice", data := .fields #[.none, .int k t, .none] }).push { cls := .type "list", data := .seq (kms_pick vs none (some k)).toArray }).get? b = some o :=
    fun b o e => Heap.get?_push_of_some _ (Heap.get?_push_of_some _ e)
  have hsz : h₂.objs.size ≤ (h₂.push { cls := .type "slice", data := .fields #[.none, .int k t, .none] }).objs.size := by rw [Heap.size_push]; exact Nat.le_succ _
  have ep : kms_pick vs none (some k) = vs.take k.toNat := by
    unfold kms_pick kms_lo kms_hi
    simp only [List.drop_zero, Nat.sub_zero, if_neg (show ¬ k < 0 by lia)]
    exact kmk_take_min vs k.toNat
  refine ⟨.r _, l₂, _, _, tk₂, rfl, mk_ref _ _, q₂ _ (f₂.H.fresh (get_size_none _ hsz)), f₂.alloc O hsz k2 ⟨vs.take k.toNat, 0, ?_, all2_tk (.of_keep k2) (r.take _)⟩,
    (S₁.trans S₂).trans (.alloc f₂.offF (f₂.notF O hsz) (get_size_none _ hsz) k2)⟩
  show Heap.get? _ _ = some _
  rw [← ep]
  exact Heap.get?_push_size _ rfl
theorem Ev_Slice (O : c.Ok n) {e lo hi : Expr} {p pos} {Q} (h : Ev c e loc σ fun x l₁ σ₁ => Ev c lo l₁ σ₁ fun y l₂ σ₂ => Ev c hi l₂ σ₂ fun z l₃ σ₃ => ∃ a xs j k, x = .r a ∧ y = .d (.int j) ∧ z = .d (.int k) ∧ 0 ≤ j ∧ j ≤ k ∧ k ≤ xs.length ∧
      ListAt c σ₃ a xs ∧ xs.length ≤ 10000000 ∧ ∀ b, σ₃ b = none → Q (.r b) l₃ (setH σ₃ b (.list ((xs.drop j.toNat).take (k.toNat - j.toNat)))))
    (ht : ∀ o r, letTemporaryGo e o r = pure () := by intro _ _; rfl) : Ev c (.Subscript e (.Slice (some lo) (some hi) none p) pos) loc σ Q := fun s f => by
  refine wpAny_Subscript_Slice list_getitem_lookup (h.use f fun u x l₁ σ₁ h₁ tk₁ ru q f₁ S₁ => ?_) ht
  refine wpAny_Slice ?_
  rw [evalPart_some]
  refine q.use f₁ fun v y l₂ σ₂ h₂ tk₂ rv q₂ f₂ S₂ => ?_
  rw [evalPart_some]
  refine q₂.use f₂ fun w z l₃ σ₃ h₃ tk₃ rw_ q₃ f₃ S₃ => ?_
  rw [evalPart_none]
  refine wpAny_pure ?_
  obtain ⟨a, xs, j, k, rfl, rfl, rfl, h0, hjk, hkl, la, hz, q₃⟩ := q₃
  obtain rfl : u = .ref a := ru
  obtain ⟨t, rfl⟩ := prep_int rv
  obtain ⟨t', rfl⟩ := prep_int rw_
  obtain ⟨vs, hl, r⟩ := la h₃ f₃.H
  have e1 : vs.length = xs.length := r.length
  refine ⟨(hl.push _).typeIs, ?_⟩
  refine wpAny_getItem_list_slice (hl.push _) (Heap.IsSliceOf.new ..) (.int j t) (.int k t') .none (by simp) ?_ (by rw [List.size_toArray, e1, sizeLine_eq]; lia)
  rw [kms_pick_eq]
  have k2 : ∀ b o, h₃.get? b = some o → ((h₃.push { cls := .type "slice", data := .fields #[.int j t, .int k t', .none] }).push { cls := .type "list", data := .seq (kms_pick vs (some j) (some k)).toArray }).get? b = some o :=
    fun b o e => Heap.get?_push_of_some _ (Heap.get?_push_of_some _ e)
  have hsz : h₃.objs.size ≤ (h₃.push { cls := .type "slice", data := .fields #[.int j t, .int k t', .none] }).objs.size := by rw [Heap.size_push]; exact Nat.le_succ _
  have ep : kms_pick vs (some j) (some k) = (vs.drop j.toNat).take (k.toNat - j.toNat) := by
    unfold kms_pick kms_lo kms_hi
    simp only [if_neg (show ¬ k < 0 by lia), if_neg (show ¬ j < 0 by lia)]
    rw [Nat.min_eq_left (by lia), Nat.min_eq_left (by lia)]
  refine ⟨.r _, l₃, _, _, tk₃, rfl, mk_ref _ _, q₃ _ (f₃.H.fresh (get_size_none _ hsz)), f₃.alloc O hsz k2 ⟨(vs.drop j.toNat).take (k.toNat - j.toNat), 0, ?_, all2_tk (.of_keep k2) ((r.drop _).take _)⟩,
    ((S₁.trans S₂).trans S₃).trans (.alloc f₃.offF (f₃.notF O hsz) (get_size_none _ hsz) k2)⟩
  show Heap.get? _ _ = some _
  rw [← ep]
  exact Heap.get?_push_size _ rfl
end
end SFw9
section SFw10
/-- what an iterable yields -/
noncomputable def ItemsAre (σ : Hp) : PV → List PV → Prop
  | .r a, xs => σ a = some (.list xs)
  | .d (.tuple ds), xs => xs = ds.map .d
  | .rng a b, xs => xs = (upto a b).map (fun i => .d (.int i)) ∧ -(2 ^ 60) ≤ a ∧ a < 2 ^ 60 ∧ -(2 ^ 60) ≤ b ∧ b < 2 ^ 60
  | _, _ => False
/-- the iterator's own object -/
noncomputable def ItAt (h : Heap) (I : Addr) (xs : List PV) : PV → Nat → Prop
  | .r a, i => h.IsListIter I a i
  | .d (.tuple ds), i => ∃ t vs, h.IsTupleIter I t i ∧ IsTup h t vs ∧ All2 (PRep h) vs.toList xs
  | .rng a b, i => IsRangeIter h I (a + (i : Nat)) (((b - a).toNat : Int) - (i : Nat)) 1
  | _, _ => False
theorem ItAt.here {h : Heap} {I : Addr} {xs : List PV} {x : PV} {i : Nat} (t : ItAt h I xs x i) : ∃ o n vs, h.get? I = some o ∧ o.cls = .type n ∧ o.data = .fields vs ∧ (n = "list_iterator" ∨ n = "tuple_iterator" ∨ n = "range_iterator") := by
  cases x with
  | r a => obtain ⟨o, e, hc, hd⟩ := (show h.IsListIter I a i from t); exact ⟨o, _, _, e, hc, hd, .inl rfl⟩
  | rng a b => exact ⟨_, _, _, (show h.get? I = some _ from t), rfl, rfl, .inr (.inr rfl)⟩
  | d d =>
    cases d <;> first | exact t.elim | skip
    obtain ⟨_, _, ⟨o, e, hc, hd⟩, _⟩ := (show ∃ t vs, h.IsTupleIter I t i ∧ IsTup h t vs ∧ All2 (PRep h) vs.toList xs from t)
    exact ⟨o, _, _, e, hc, hd, .inr (.inl rfl)⟩
theorem ItAt.notImm {h : Heap} {I : Addr} {xs : List PV} {x : PV} {i : Nat} (t : ItAt h I xs x i) {o : Obj} (e : h.get? I = some o) : ¬ Imm o := by
  obtain ⟨o', n, vs, e', hc, hd, hn⟩ := t.here
  rw [e] at e'; cases e'
  rintro (⟨_, _, _, d⟩ | ⟨c, _⟩)
  · rw [hd] at d; cases d
  · rw [hc] at c; cases c
    rcases hn with h | h | h <;> exact absurd h (by decide)
theorem ItAt.keep {h h' : Heap} {I : Addr} {xs : List PV} {x : PV} {i : Nat} (t : ItAt h I xs x i) (k : ∀ o, h.get? I = some o → h'.get? I = some o) (tk : TupKeep h h') : ItAt h' I xs x i := by
  cases x with
  | r a => exact Heap.IsListIter.at (show h.IsListIter I a i from t) k
  | rng a b => exact k _ t
  | d d =>
    cases d <;> first | exact t.elim | skip
    obtain ⟨a, vs, ⟨o, e, hc, hd⟩, ⟨o', e', hc', n, hd'⟩, r⟩ := (show ∃ t vs, h.IsTupleIter I t i ∧ IsTup h t vs ∧ All2 (PRep h) vs.toList xs from t)
    exact ⟨a, vs, ⟨o, k _ e, hc, hd⟩, ⟨o', tk _ _ e' (.inl ⟨hc', _, _, hd'⟩), hc', n, hd'⟩, all2_tk tk r⟩
theorem ItAt.go {prog : Program} {w : World} {A : Around} {E : Value → Shared → Prop} {s : Shared} {I : Addr} {xs : List PV} {x : PV} {i : Nat} (t : ItAt s.heap I xs x i) {tg : Expr} {v : Value} {Q : Unit → Shared → Prop} (hQ : Q () s) :
    wpAny (model prog w) A (letOwnedTupleGo tg (.ref I) v) Q E s := by
  obtain ⟨o, n, vs, ho, hc, hd, hn⟩ := t.here
  have no : (["enumerate", "zip", "dict_itemiterator", "dict_reverseitemiterator", "odict_iterator", "itertools.zip_longest", "itertools.pairwise"].contains n) = false := by
    rcases hn with rfl | rfl | rfl <;> decide
  unfold letOwnedTupleGo
  split
  · cases v with
    | ref T =>
      refine wpAny_bind (wpAny_load ho ?_)
      rw [hc, hd]
      dsimp only
      rw [no, Bool.false_and]
      exact wpAny_pure hQ
    | _ => exact wpAny_pure hQ
  · cases v with
    | ref T =>
      refine wpAny_bind (wpAny_load ho ?_)
      rw [hc, hd]
      dsimp only
      rw [no, Bool.false_and]
      exact wpAny_pure hQ
    | _ => exact wpAny_pure hQ
  · exact wpAny_pure hQ
section
variable {c : Cx} {n : Nat} {loc : Loc} {σ : Hp}
/-- I stands outside -/
structure Out (c : Cx) (σ : Hp) (I : Addr) : Prop where
  new : c.base.objs.size ≤ I
  s : σ I = none
  f : ¬ c.F I
  l : I ≠ c.env.locals
  cs : ∀ x a, c.env.cells.lookup x = some a → a ≠ I
theorem Out.mono {σ' : Hp} {h h' : Heap} {I : Addr} {F : Addr → Prop} (o : Out c σ I) {ob : Obj} (e : h.get? I = some ob) (S : Step F σ h σ' h') : Out c σ' I := by
  refine ⟨o.new, ?_, o.f, o.l, o.cs⟩
  cases q : σ' I with
  | none => rfl
  | some mo => have := S.new I mo q o.s; rw [e] at this; cases this
theorem FRel.out {h : Heap} (O : c.Ok n) (f : FRel c loc σ h) {I : Addr} (hI : h.objs.size ≤ I) : Out c σ I where
  new := Nat.le_trans f.H.size hI
  s := f.H.fresh (get_size_none _ hI)
  f := f.notF O hI
  l := by
    obtain ⟨m, hn, _⟩ := f.ns
    exact Ne.symm (Nat.ne_of_lt (Nat.lt_of_lt_of_le hn.lt hI))
  cs := fun x a e => by
    obtain ⟨⟨v, ob, ho, hd⟩, _⟩ := f.cellsAt x a e
    exact Nat.ne_of_lt (Nat.lt_of_lt_of_le (Heap.lt_size ho) hI)
theorem FRel.extBut (O : c.Ok n) {h h' : Heap} (f : FRel c loc σ h) {I : Addr} (o : Out c σ I) (tk : TupKeep h h') (k : Heap.ExtBut I h h') : FRel c loc σ h' where
  H := ⟨fun b ob e => k b ob (fun z => by
      have h1 := Heap.lt_size e; rw [z] at h1; exact absurd o.new (Nat.not_le.mpr h1)) (f.H.keep b ob e),
    fun a mo e => (f.H.rep a mo e).tk tk fun x e' => k a x (fun z => by have h1 := o.s; rw [← z, e] at h1; cases h1) e', f.H.new, by
      obtain ⟨m, ⟨ob, es, ep, e, _⟩, _⟩ := f.ns
      exact Nat.le_of_lt (Nat.lt_of_le_of_lt O.newL (Heap.lt_size (k _ ob o.l.symm e)))⟩
  ns := let ⟨m, hn, q⟩ := f.ns; ⟨m, hn.at' fun ob e => k _ ob o.l.symm e, fun x pv e kd => let ⟨v, a, b⟩ := q x pv e kd; ⟨v, a, b.tk tk⟩⟩
  cells := fun x pv e kd => let ⟨a, v, l, ⟨ob, ho, hd⟩, r⟩ := f.cells x pv e kd; ⟨a, v, l, ⟨ob, k _ ob (o.cs x a l) ho, hd⟩, r.tk tk⟩
  cellsAt := fun x a e => let ⟨⟨v, ob, ho, hd⟩, n⟩ := f.cellsAt x a e; ⟨⟨v, ob, k _ ob (o.cs x a e) ho, hd⟩, n⟩
  offF := f.offF
theorem ItAt.tk {h h' : Heap} {I : Addr} {xs : List PV} {x : PV} {i : Nat} (t : ItAt h I xs x i) (k : Heap.ExtBut I h h') : TupKeep h h' := fun b o e im => k b o (fun z => t.notImm (z ▸ e) im) e
theorem Step.ext {F : Addr → Prop} {σ₀ σ : Hp} {h₀ h h' : Heap} {I : Addr} (S : Step F σ₀ h₀ σ h) (hI : h₀.get? I = none) (k : Heap.ExtBut I h h') : Step F σ₀ h₀ σ h' :=
  ⟨fun a o e n f => k a o (fun z => by rw [z, hI] at e; cases e) (S.keep a o e n f), S.new, S.off⟩
/-- the iterator is made -/
theorem iter_start (O : c.Ok n) {s : Shared} {u : Value} {x : PV} {xs : List PV} {Q : Value → Shared → Prop} (f : FRel c loc σ s.heap) (r : PRep s.heap u x) (hx : ItemsAre σ x xs)
    (h : ∀ I h', s.heap.objs.size ≤ I → (∀ b o, s.heap.get? b = some o → h'.get? b = some o) → ItAt h' I xs x 0 → Q (.ref I) { s with heap := h' }) : wpAny (model c.prog c.w) c.A (pyIter u) Q NoE s := by
  cases x with
  | r a =>
    obtain rfl : u = .ref a := r
    obtain ⟨vs, k, hl, rr⟩ := f.H.rep a _ hx
    refine wpAny_pyIter_list hl.isList ?_
    exact h _ _ (Nat.le_refl _) (fun b o e => Heap.get?_push_of_some _ e) ⟨_, Heap.get?_push_size _ rfl, rfl, rfl⟩
  | rng a b =>
    obtain ⟨r, t, u', z, rfl, hr⟩ := r
    obtain ⟨_, h1, h2, h3, h4⟩ := hx
    refine wpAny_pyIter_range hr (small_one (by lia) (by lia) (by lia) (by lia)) ?_
    rw [rangeSize_nat]
    refine h _ _ (Nat.le_refl _) (fun b o e => Heap.get?_push_of_some _ e) ?_
    show IsRangeIter _ _ _ _ _
    have e1 : a + ((0 : Nat) : Int) = a := by lia
    have e2 : ((b - a).toNat : Int) - ((0 : Nat) : Int) = ((b - a).toNat : Int) := by lia
    rw [e1, e2]
    exact Heap.get?_push_size _ rfl
  | d d =>
    cases d <;> first | exact hx.elim | skip
    rename_i ds
    have hx : xs = ds.map .d := hx
    subst hx
    have r : Reads s.heap u (.tuple ds) [] := r
    cases r with
    | tuple ho hc hd rr =>
      rename_i a o vs m
      have ht : s.heap.IsTuple a vs := ⟨o, ho, hc, m, hd⟩
      refine wpAny_pyIter_tuple ht ?_
      have k : ∀ b o, s.heap.get? b = some o → (s.heap.push { cls := .type "tuple_iterator", data := .fields #[.ref a, .int 0 0] }).get? b = some o := fun b o e => Heap.get?_push_of_some _ e
      exact h _ _ (Nat.le_refl _) k ⟨a, vs, ⟨_, Heap.get?_push_size _ rfl, rfl, rfl⟩, ⟨o, k _ _ ho, hc, m, hd⟩, all2_tk (.of_keep k) (of_readsAll rr rfl)⟩
/-- the iterator's turn -/
theorem iter_next (O : c.Ok n) {s : Shared} {x : PV} {xs : List PV} {I : Addr} {i : Nat} {Q : Option Value → Shared → Prop} (f : FRel c loc σ s.heap) (o : Out c σ I) (hx : ItemsAre σ x xs) (t : ItAt s.heap I xs x i)
    (hs : ∀ pv v h' tk', xs[i]? = some pv → PRep h' v pv → ItAt h' I xs x (i + 1) → Heap.ExtBut I s.heap h' → Q (some v) { s with heap := h', toks := tk' })
    (hn : ∀ h', xs[i]? = none → Heap.ExtBut I s.heap h' → Q none { s with heap := h' }) : wpAny (model c.prog c.w) c.A (pyNext (.ref I)) Q NoE s := by
  have tk0 : ∀ h', Heap.ExtBut I s.heap h' → TupKeep s.heap h' := fun h' k => t.tk k
  cases x with
  | r a =>
    have t' : s.heap.IsListIter I a i := t
    have hx' : σ a = some (.list xs) := hx
    obtain ⟨vs, k, hl, rr⟩ := f.H.rep a _ hx'
    cases q : xs[i]? with
    | some pv =>
      obtain ⟨v, hv, rv⟩ := rr.get q
      exact wpAny_pyNext_list_item t' hl.isList (x := v) (by simpa using hv) fun h' hit hsb => hs pv v h' s.toks q (rv.tk (tk0 h' hsb.extBut)) hit hsb.extBut
    | none =>
      have hv : vs[i]? = none := by rw [List.getElem?_eq_none_iff] at q ⊢; rw [rr.length]; exact q
      exact wpAny_pyNext_list_end O.hh t' hl.isList (by simpa using hv) fun h' he => hn h' q he
  | rng a b =>
    have t' : IsRangeIter s.heap I (a + (i : Nat)) (((b - a).toNat : Int) - (i : Nat)) 1 := t
    obtain ⟨rfl, _⟩ := hx
    cases q : (List.map (fun i => PV.d (PyData.int i)) (upto a b))[i]? with
    | some pv =>
      have hlt : i < (b - a).toNat := by
        have := (List.getElem?_eq_some_iff.mp q).1
        simpa [upto] using this
      have hpv : pv = .d (.int (a + (i : Nat))) := by
        simp only [upto, List.map_map, List.getElem?_map, List.getElem?_range hlt, Option.map_some] at q
        exact (Option.some.inj q).symm
      refine wpAny_pyNext_range_item t' (by lia) fun h' hit hsb => hs pv _ h' _ q ?_ ?_ hsb.extBut
      · rw [hpv]; exact mk_int _ _ _
      · show IsRangeIter _ _ _ _ _
        have e1 : a + ((i + 1 : Nat) : Int) = a + (i : Int) + 1 := by lia
        have e2 : ((b - a).toNat : Int) - ((i + 1 : Nat) : Int) = ((b - a).toNat : Int) - (i : Nat) - 1 := by lia
        rw [e1, e2]; exact hit
    | none =>
      have hle : (b - a).toNat ≤ i := by
        rw [List.getElem?_eq_none_iff] at q
        simpa [upto] using q
      exact wpAny_pyNext_range_end O.hh t' (by lia) fun h' he => hn h' q he
  | d d =>
    cases d <;> first | exact t.elim | skip
    rename_i ds
    obtain ⟨a, vs, hit, ⟨ob, e, hc, nn, hd⟩, r⟩ := (show ∃ a vs, s.heap.IsTupleIter I a i ∧ IsTup s.heap a vs ∧ All2 (PRep s.heap) vs.toList xs from t)
    have ht : s.heap.IsTuple a vs := ⟨ob, e, hc, nn, hd⟩
    cases q : xs[i]? with
    | some pv =>
      obtain ⟨v, hv, rv⟩ := r.get q
      refine wpAny_pyNext_tuple_item hit ht (x := v) (by simpa using hv) fun h' hit' hsb => hs pv v h' s.toks q (rv.tk (tk0 h' hsb.extBut)) ?_ hsb.extBut
      exact ⟨a, vs, hit', ⟨ob, tk0 h' hsb.extBut _ _ e (.inl ⟨hc, _, _, hd⟩), hc, nn, hd⟩, all2_tk (tk0 h' hsb.extBut) r⟩
    | none =>
      have hv : vs.toList[i]? = none := by rw [List.getElem?_eq_none_iff] at q ⊢; rw [r.length]; exact q
      exact wpAny_pyNext_tuple_end O.hh hit ht (by simpa using hv) fun h' he => hn h' q he
/-- targets -/
noncomputable abbrev Tg (c : Cx) (t : Expr) (pv : PV) (loc : Loc) (σ : Hp) (Q : Loc → Hp → Prop) : Prop := Op1 c (fun v => assign t c.env v) (fun _ _ _ => True) pv loc σ (fun (_ : Unit) => Q)
theorem Tg_name (O : c.Ok n) {x : Str} {pos} {pv : PV} {Q} (hk : c.env.kindOf x = some .local) (h : Q (setL x pv loc) σ) : Tg c (.Name x pos) pv loc σ Q := fun s u f r =>
  wpAny_assign_Name (store_local (R := FlRep) O f hk r fun h' tk' f' S' => ⟨(), _, σ, h', tk', rfl, trivial, h, f', S'⟩)
theorem Tg_cell (O : c.Ok n) {x : Str} {pos} {pv : PV} {Q} (hk : c.env.kindOf x = some .cell) {a : Addr} (hx : c.env.cells.lookup x = some a) (fa : c.F a) (h : Q (setL x pv loc) σ) : Tg c (.Name x pos) pv loc σ Q := fun s u f r =>
  wpAny_assign_Name (store_cell O f hk hx fa r fun h' tk' f' S' => ⟨(), _, σ, h', tk', rfl, trivial, h, f', S'⟩)
theorem Tg_pair (O : c.Ok n) {x y : Str} {px py k pos} {d e : PyData} {Q} (hx : c.env.kindOf x = some .local) (hy : c.env.kindOf y = some .local) (h : Q (setL y (.d e) (setL x (.d d) loc)) σ) :
    Tg c (.Tuple [.Name x px, .Name y py] k pos) (.d (.tuple [d, e])) loc σ Q := fun s u f r => by
  have r : Reads s.heap u (.tuple [d, e]) [] := r
  cases r with
  | tuple ho hc hd rr =>
    rename_i a o vs m
    have ht : s.heap.IsTuple a vs := ⟨o, ho, hc, m, hd⟩
    have r2 := of_readsAll rr rfl
    have hl : vs.size = 2 := by have := r2.length; simpa using this
    refine wpAny_assign_Tuple O.hh ht (by rw [hl]; rfl) rfl fun h₁ he => ?_
    have k : ∀ b o, s.heap.get? b = some o → h₁.get? b = some o := fun b o e => he b o (Nat.ne_of_lt (Heap.lt_size e)) e
    have f₁ := f.keeps O k
    have S₁ : Step c.F σ s.heap σ h₁ := .keeps f.offF k
    obtain ⟨v1, v2, hvs, p1, p2⟩ : ∃ v1 v2, vs.toList = [v1, v2] ∧ PRep s.heap v1 (.d d) ∧ PRep s.heap v2 (.d e) := by
      obtain ⟨v1, v2, e1, p1, p2⟩ := args2 r2
      exact ⟨v1, v2, e1, p1, p2⟩
    rw [hvs]
    show wpAny _ _ (assignInOrder [assign (.Name x px) c.env, assign (.Name y py) c.env] [v1, v2]) _ _ _
    have r1 : PRep h₁ v1 (.d d) := p1.tk (.of_keep k)
    refine wpAny_assignInOrder_more (wpAny_assign_Name (store_local (R := FlRep) O f₁ hx r1 fun h₂ tk₂ f₂ S₂ => ?_))
    have r2 : PRep h₂ v2 (.d e) := (p2.tk (.of_keep k)).tk (f₁.tk O S₂)
    refine wpAny_assignInOrder_more (wpAny_assign_Name (store_local (R := FlRep) O (s := ⟨h₂, s.gens, s.drawn, tk₂, s.os⟩) f₂ hy r2 fun h₃ tk₃ f₃ S₃ => ?_))
    exact wpAny_assignInOrder_none ⟨(), _, σ, h₃, tk₃, rfl, trivial, h, f₃, (S₁.trans S₂).trans S₃⟩
theorem For_core (O : c.Ok n) {target : Expr} {body : List Stmt} {x : PV} {xs : List PV} {Q : AF → Loc → Hp → Prop} (J : Nat → Loc → Hp → Prop) (h0 : J 0 loc σ) (hJ : ∀ i l σ', J i l σ' → ItemsAre σ' x xs)
    (turn : ∀ i l σ' pv, xs[i]? = some pv → J i l σ' → Tg c target pv l σ' fun l' σ'' => Ex c body l' σ'' fun fl l₂ σ₂ => match fl with | .next => J (i + 1) l₂ σ₂ | .cont => J (i + 1) l₂ σ₂ | .brk => Q .next l₂ σ₂ | .ret v => Q (.ret v) l₂ σ₂)
    (hend : ∀ l σ', J xs.length l σ' → Q .next l σ') {s : Shared} {u : Value} (f : FRel c loc σ s.heap) (r : PRep s.heap u x) :
    wpAny (model c.prog c.w) c.A (pyIter u) (fun it s₂ => codeAny (model c.prog c.w) c.A (.forLoop target it body [] c.env) (fun r s' => match r with | .ok f => Post c FlRep Q σ s f s' | .error e => cameBackBy (model c.prog c.w) c.A c.env NoE e s') s₂) NoE s := by
  refine iter_start O f r (hJ _ _ _ h0) fun I h₂ hI k₂ it₂ => ?_
  have hI0 : s.heap.get? I = none := get_size_none _ hI
  refine codeAny_forLoop_any (R := fun r s' => match r with | .ok f => Post c FlRep Q σ s f s' | .error e => cameBackBy (model c.prog c.w) c.A c.env NoE e s')
    (fun k s' => ∃ i l σ' h' tk', s' = { s with heap := h', toks := tk' } ∧ i ≤ xs.length ∧ k = xs.length - i ∧ J i l σ' ∧ FRel c l σ' h' ∧ Step c.F σ s.heap σ' h' ∧ Out c σ' I ∧ ItAt h' I xs x i) ?_ xs.length
    ⟨0, loc, σ, h₂, s.toks, rfl, Nat.zero_le _, rfl, h0, f.keeps O k₂, .keeps f.offF k₂, f.out O hI, it₂⟩
  rintro k s' ⟨i, l, σ', h', tk', rfl, hi, rfl, hj, f', S', o', t'⟩
  refine wpAny_mono (Q := fun r s₁ => match r with
      | none => xs[i]? = none ∧ ∃ h₁, s₁ = { s with heap := h₁, toks := tk' } ∧ Heap.ExtBut I h' h₁
      | some v => ∃ pv h₁ tk₁, s₁ = { s with heap := h₁, toks := tk₁ } ∧ xs[i]? = some pv ∧ PRep h₁ v pv ∧ ItAt h₁ I xs x (i + 1) ∧ Heap.ExtBut I h' h₁) (E := NoE)
    (iter_next O (s := { s with heap := h', toks := tk' }) f' o' (hJ _ _ _ hj) t' (fun pv v h₁ tk₁ hx rv t₁ k₁ => ⟨pv, h₁, tk₁, rfl, hx, rv, t₁, k₁⟩) (fun h₁ hx k₁ => ⟨hx, h₁, rfl, k₁⟩)) (fun r s₁ q => ?_) fun _ _ z => z.elim
  cases r with
  | none =>
    obtain ⟨hx, h₁, rfl, k₁⟩ := q
    have hil : i = xs.length := by
      rw [List.getElem?_eq_none_iff] at hx; lia
    subst hil
    exact wpAny_execs_nil ⟨.next, l, σ', h₁, tk', rfl, trivial, hend _ _ hj, f'.extBut O o' (t'.tk k₁) k₁, S'.ext hI0 k₁⟩
  | some v =>
    obtain ⟨pv, h₁, tk₁, rfl, hx, rv, t₁, k₁⟩ := q
    have hlt : i < xs.length := (List.getElem?_eq_some_iff.mp hx).1
    refine t₁.go (s := { s with heap := h₁, toks := tk₁ }) ?_
    have f₁ := f'.extBut O o' (t'.tk k₁) k₁
    have S₁ := S'.ext hI0 k₁
    refine wpAny_mono (turn i l σ' pv hx hj { s with heap := h₁, toks := tk₁ } v f₁ rv) (fun _ s₂ p => ?_) fun _ _ z => z.elim
    obtain ⟨_, l₂, σ₂, h₂, tk₂, rfl, _, q₂, f₂, S₂⟩ := p
    refine wpAny_mono (q₂ { s with heap := h₂, toks := tk₂ } f₂) (fun fl s₃ p => ?_) fun _ _ z => z.elim
    obtain ⟨b, l₃, σ₃, h₃, tk₃, rfl, r₃, q₃, f₃, S₃⟩ := p
    have go : J (i + 1) l₃ σ₃ → ∃ m, m < xs.length - i ∧ ∃ i l σ' h' tk', ({ s with heap := h₃, toks := tk₃ } : Shared) = { s with heap := h', toks := tk' } ∧ i ≤ xs.length ∧ m = xs.length - i ∧ J i l σ' ∧ FRel c l σ' h' ∧ Step c.F σ s.heap σ' h' ∧ Out c σ' I ∧ ItAt h' I xs x i := fun hj' => by
      obtain ⟨ob, _, _, e₁, _⟩ := t₁.here
      have o₂ := o'.mono e₁ S₂
      have e₂ := S₂.keep I ob e₁ o'.s o'.f
      have o₃ := o₂.mono e₂ S₃
      refine ⟨xs.length - (i + 1), by lia, i + 1, l₃, σ₃, h₃, tk₃, rfl, hlt, rfl, hj', f₃, (S₁.trans S₂).trans S₃, o₃, ?_⟩
      exact (t₁.keep (fun o e => S₂.keep I o e o'.s o'.f) (f₁.tk O S₂)).keep (fun o e => S₃.keep I o e o₂.s o₂.f) (f₂.tk O S₃)
    cases fl <;> cases b <;> first | exact r₃.elim | skip
    · exact go q₃
    · exact ⟨.next, l₃, σ₃, h₃, tk₃, rfl, trivial, q₃, f₃, (S₁.trans S₂).trans S₃⟩
    · exact go q₃
    · exact ⟨.ret _, l₃, σ₃, h₃, tk₃, rfl, r₃, q₃, f₃, (S₁.trans S₂).trans S₃⟩
theorem Ex1_For (O : c.Ok n) {target iter : Expr} {body : List Stmt} {pos : Pos} {Q : AF → Loc → Hp → Prop}
    (h : Ev c iter loc σ fun x l₁ σ₁ => ∃ (xs : List PV) (J : Nat → Loc → Hp → Prop), J 0 l₁ σ₁ ∧ (∀ i l σ', J i l σ' → ItemsAre σ' x xs) ∧
      (∀ i l σ' pv, xs[i]? = some pv → J i l σ' → Tg c target pv l σ' fun l' σ'' => Ex c body l' σ'' fun fl l₂ σ₂ => match fl with | .next => J (i + 1) l₂ σ₂ | .cont => J (i + 1) l₂ σ₂ | .brk => Q .next l₂ σ₂ | .ret v => Q (.ret v) l₂ σ₂) ∧
      (∀ l σ', J xs.length l σ' → Q .next l σ'))
    (hs : ∀ x, foldedSetIterable iter c.env x = pure x := by intro _; rfl) : Ex1 c (.For target iter body [] pos) loc σ Q := fun s f => by
  refine wpAny_For (h.use f fun u x l₁ σ₁ h₁ tk₁ r q f₁ S₁ => ?_) hs
  obtain ⟨xs, J, h0, hJ, turn, hend⟩ := q
  refine wpAny_mono (For_core O J h0 hJ turn hend (s := { s with heap := h₁, toks := tk₁ }) f₁ r) (fun it s₂ q => ?_) fun _ _ z => z.elim
  exact codeAny_mono q fun r s' p => by
    cases r with
    | ok f => exact Post.after (s := s) S₁ p
    | error e => exact p
end
end SFw10
section SFw11
section
variable {c : Cx} {n : Nat} {loc : Loc} {σ : Hp}
theorem Ev_append (O : c.Ok n) {o e : Expr} {apos pos : Pos} {pl : Sem Bool} {Q}
    (h : Ev c o loc σ fun ov l₁ σ₁ => ∃ a xs, ov = .r a ∧ σ₁ a = some (.list xs) ∧ Ev c e l₁ σ₁ fun x l₂ σ₂ => ∃ ys, σ₂ a = some (.list ys) ∧ ys.length ≤ 1000000 ∧ Q (.d .none) l₂ (setH σ₂ a (.list (ys ++ [x]))))
    (he : eval (.Call (.Attribute o "append" apos) [e] [] pos) c.env = (do
      let ov ← eval o c.env
      standAt apos.atName
      let (f, first) ← holding [ov] (getMethod ov "append" pl)
      callWith pos f first (backTo pos (starEach [e] c.env)) []) := by rfl) (hp : [e].all plainE = true := by rfl) (hst : starEach [e] c.env = (false, eval e c.env) :: starEach [] c.env := by rfl) :
    Ev c (.Call (.Attribute o "append" apos) [e] [] pos) loc σ Q := by
  refine Ev_CallMB O (id := "list.append") (Tr.mono h fun ov l₁ σ₁ q => ?_) he hp
  obtain ⟨a, xs, rfl, ha, q⟩ := q
  refine ⟨gm_list ha PySem.F.slot_list_append PySem.F.type_list_append, Evs_cons O (Tr.mono q fun x l₂ σ₂ q => Evs_nil ?_) hst⟩
  obtain ⟨ys, hy, hz, q⟩ := q
  exact Fn_append hy hz q
theorem Ex1_append (O : c.Ok n) {o e : Expr} {apos cpos pos : Pos} {pl : Sem Bool} {Q}
    (h : Ev c o loc σ fun ov l₁ σ₁ => ∃ a xs, ov = .r a ∧ σ₁ a = some (.list xs) ∧ Ev c e l₁ σ₁ fun x l₂ σ₂ => ∃ ys, σ₂ a = some (.list ys) ∧ ys.length ≤ 1000000 ∧ Q .next l₂ (setH σ₂ a (.list (ys ++ [x]))))
    (he : eval (.Call (.Attribute o "append" apos) [e] [] cpos) c.env = (do
      let ov ← eval o c.env
      standAt apos.atName
      let (f, first) ← holding [ov] (getMethod ov "append" pl)
      callWith cpos f first (backTo cpos (starEach [e] c.env)) []) := by rfl) (hp : [e].all plainE = true := by rfl) (hst : starEach [e] c.env = (false, eval e c.env) :: starEach [] c.env := by rfl)
    (hs : swapsWith (.Call (.Attribute o "append" apos) [e] [] cpos) none pos.line c.env = pure false := by rfl) :
    Ex1 c (.Expr (.Call (.Attribute o "append" apos) [e] [] cpos) pos) loc σ Q := by
  refine Ex1_Expr O (Ev_append O (Tr.mono h fun ov l₁ σ₁ q => ?_) he hp hst) hs
  obtain ⟨a, xs, rfl, ha, q⟩ := q
  refine ⟨a, xs, rfl, ha, Tr.mono q fun x l₂ σ₂ q => ?_⟩
  obtain ⟨ys, hy, hz, q⟩ := q
  exact ⟨ys, hy, hz, trivial, q⟩
theorem Op2_eqI (O : c.Ok n) {a b : Int} {Q} (h : Q (.d (.bool (decide (a = b)))) loc σ) : Op2 c (compareOp .Eq) PRep (.d (.int a)) (.d (.int b)) loc σ Q := by
  refine Op2_eq O rfl rfl fun r hr => ?_
  have : r = decide (a = b) := by
    by_cases e : a = b
    · subst e; rw [decide_eq_true rfl]; exact hr.mpr rfl
    · rw [decide_eq_false e]; cases r with
      | false => rfl
      | true => exact absurd (PyData.int.inj (hr.mp rfl)) e
  rw [this]; exact h
theorem Op2_neI (O : c.Ok n) {a b : Int} {Q} (h : Q (.d (.bool (decide (a ≠ b)))) loc σ) : Op2 c (compareOp .NotEq) PRep (.d (.int a)) (.d (.int b)) loc σ Q := by
  refine Op2_ne O rfl rfl fun r hr => ?_
  have : r = decide (a ≠ b) := by
    by_cases e : a = b
    · subst e
      cases r with
      | false => simp
      | true => exact absurd rfl (hr.mp rfl)
    · rw [decide_eq_true e]; exact hr.mpr fun q => e (PyData.int.inj q)
  rw [this]; exact h
theorem raw_or {M : Model} {A : Around} {E : Value → Shared → Prop} {s : Shared} {pos : Pos} {x y : Sem Value} {rest : List (Sem Value)} {Q : Value → Shared → Prop}
    (h : wpAny M A x (fun v s₁ => wpAny M A (truthy v) (fun t s₂ => if t then Q v s₂ else wpAny M A (boolOp pos .Or (y :: rest)) Q E s₂) E s₁) E s) : wpAny M A (boolOp pos .Or (x :: y :: rest)) Q E s := by
  show wpAny M A (do
    let v ← x
    standAt pos
    let t ← holding [v] (truthy v)
    match BoolOp.Or, t with
    | .And, false | .Or, true => pure v
    | _, _ => boolOp pos .Or (y :: rest)) Q E s
  refine wpAny_bind (wpAny_mono h (fun v s₁ h₁ => wpAny_bind (wpAny_standAt (wpAny_bind (wpAny_holding (wpAny_mono h₁ (fun t s₂ h₂ => ?_) fun _ _ x => x))))) fun _ _ x => x)
  cases t with
  | false => exact h₂
  | true => exact wpAny_pure h₂
/-- or, of bools -/
noncomputable def OrC (c : Cx) (pos : Pos) (es : List PySem.Expr) (loc : Loc) (σ : Hp) (Q : PV → Loc → Hp → Prop) : Prop := Tr c (boolOp pos .Or (es.map fun e => eval e c.env)) PRep loc σ Q
theorem OrC_one {pos : Pos} {e : PySem.Expr} {Q} (h : Ev c e loc σ Q) : OrC c pos [e] loc σ Q := fun s f => h s f
theorem OrC_cons {pos : Pos} {e e2 : PySem.Expr} {es : List PySem.Expr} {Q} (h : Ev c e loc σ fun v l₁ σ₁ => ∃ b, v = .d (.bool b) ∧ if b then Q v l₁ σ₁ else OrC c pos (e2 :: es) l₁ σ₁ Q) : OrC c pos (e :: e2 :: es) loc σ Q := fun s f =>
  raw_or (h.use f fun u x l₁ σ₁ h₁ tk₁ ru q f₁ S₁ => by
    obtain ⟨b, rfl, q⟩ := q
    obtain rfl := prep_bool ru
    refine wpAny_truthy_bool ?_
    cases b
    · exact Tr.go (show OrC c pos (e2 :: es) l₁ σ₁ Q from q) f₁ S₁
    · exact ⟨_, l₁, σ₁, h₁, tk₁, rfl, ru, q, f₁, S₁⟩)
theorem Ev_Or3 {x y z : PySem.Expr} {pos : Pos} {Q} (h : OrC c pos [x, y, z] loc σ Q) : Ev c (.BoolOp .Or [x, y, z] pos) loc σ Q := fun s f => h s f
/-- a list or a tuple of ints -/
noncomputable def SeqIs (σ : Hp) : PV → List Int → Prop
  | .r a, xs => σ a = some (.list (xs.map fun i => .d (.int i)))
  | .d (.tuple ds), xs => ds = xs.map .int
  | _, _ => False
theorem Fn_lenSeq {g : Gx} {pv : PV} {xs : List Int} {Q : PV → Hp → Prop} (h : SeqIs σ pv xs) (hz : xs.length < 2 ^ 62) (q : Q (.d (.int xs.length)) σ) : Fn g n (.builtin "len") [pv] σ Q := by
  cases pv with
  | r a => exact Fn_len (xs := xs.map fun i => .d (.int i)) h (by rw [List.length_map]; exact hz) (by rw [List.length_map]; exact q)
  | rng a b => exact h.elim
  | d d =>
    cases d <;> first | exact h.elim | skip
    rename_i ds
    have h : ds = xs.map .int := h
    subst h
    exact Fn_lenT (by rw [List.length_map]; exact hz) (by rw [List.length_map]; exact q)
theorem Op2_idxSeq {pv : PV} {xs : List Int} {k v : Int} {e i : Expr} {Q} (h : SeqIs σ pv xs) (h0 : 0 ≤ k) (hk : k < 2 ^ 63) (hx : xs[k.toNat]? = some v) (q : Q (.d (.int v)) loc σ)
    (hs : ∀ o j, subscripted i false o j = operate [o, j] (getItem o j) := by intro _ _; rfl) : Op2 c (subscriptTail e i) PRep pv (.d (.int k)) loc σ Q := by
  cases pv with
  | r a => exact Op2_idxL (xs := xs.map fun i => .d (.int i)) h h0 hk (by simp [hx]) q hs
  | rng a b => exact h.elim
  | d d =>
    cases d <;> first | exact h.elim | skip
    rename_i ds
    have h : ds = xs.map .int := h
    subst h
    exact Op2_idxT h0 hk (by simp [hx]) q hs
end
end SFw11
section SFw15
/- the ways on, by name: the same rules, told so that a proof stays small -/
section
variable (c : Cx) (n : Nat)
noncomputable abbrev KR (Q : PV → Loc → Hp → Prop) (l : Loc) : PV → Hp → Prop := fun r σ => Q r l σ
noncomputable abbrev KF (v : Value) (Q : PV → Loc → Hp → Prop) : List PV → Loc → Hp → Prop := fun xs l σ => Fn c.toGx n v xs σ (KR Q l)
noncomputable abbrev K1 (op : Value → Value → Sem Value) (x : PV) (Q : PV → Loc → Hp → Prop) : PV → Loc → Hp → Prop := fun y l σ => Op2 c op PRep x y l σ Q
noncomputable abbrev K2 (r : PySem.Expr) (op : Value → Value → Sem Value) (Q : PV → Loc → Hp → Prop) : PV → Loc → Hp → Prop := fun x l σ => Ev c r l σ (K1 c op x Q)
noncomputable abbrev KU (op : Value → Sem Value) (Q : PV → Loc → Hp → Prop) : PV → Loc → Hp → Prop := fun x l σ => Op1 c op PRep x l σ Q
noncomputable abbrev KI (b o : PySem.Expr) (Q : PV → Loc → Hp → Prop) : Bool → Loc → Hp → Prop := fun x l σ => if x then Ev c b l σ Q else Ev c o l σ Q
noncomputable abbrev KB (Q : Bool → Loc → Hp → Prop) : PV → Loc → Hp → Prop := fun v l σ => ∃ b, v = .d (.bool b) ∧ Q b l σ
noncomputable abbrev TrAll (op : PySem.BoolOp) (xs : List PySem.Expr) (l : Loc) (σ : Hp) (Q : Bool → Loc → Hp → Prop) : Prop := Tr c (allTrue op xs c.env) (fun _ (a b : Bool) => a = b) l σ Q
noncomputable abbrev KO (xs : List PySem.Expr) (Q : Bool → Loc → Hp → Prop) : Bool → Loc → Hp → Prop := fun b l σ => if b then Q true l σ else TrAll c .Or xs l σ Q
noncomputable abbrev KA (xs : List PySem.Expr) (Q : Bool → Loc → Hp → Prop) : Bool → Loc → Hp → Prop := fun b l σ => if b then TrAll c .And xs l σ Q else Q false l σ
noncomputable abbrev KC (x : PV) (Q : List PV → Loc → Hp → Prop) : List PV → Loc → Hp → Prop := fun xs => Q (x :: xs)
noncomputable abbrev KE (pos : Pos) (es : List PySem.Expr) (Q : List PV → Loc → Hp → Prop) : PV → Loc → Hp → Prop := fun x l σ => Evs c pos es l σ (KC x Q)
noncomputable abbrev KT (Q : PV → Loc → Hp → Prop) : List PV → Loc → Hp → Prop := fun xs l σ => ∃ ds : List PyData, xs = ds.map .d ∧ ds.length ≤ 1000 ∧ Q (.d (.tuple ds)) l σ
noncomputable abbrev KL (Q : PV → Loc → Hp → Prop) : List PV → Loc → Hp → Prop := fun xs l σ => xs.length ≤ 1000 ∧ ∀ a, σ a = none → Q (.r a) l (setH σ a (.list xs))
noncomputable abbrev KS (rest : List Stmt) (Q : AF → Loc → Hp → Prop) : AF → Loc → Hp → Prop := fun fl l σ => match fl with | .next => Ex c rest l σ Q | fl => Q fl l σ
noncomputable abbrev KRet (Q : AF → Loc → Hp → Prop) : PV → Loc → Hp → Prop := fun x => Q (.ret x)
noncomputable abbrev KIf (b o : List Stmt) (Q : AF → Loc → Hp → Prop) : Bool → Loc → Hp → Prop := fun x l σ => if x then Ex c b l σ Q else Ex c o l σ Q
noncomputable abbrev KX (Q : AF → Loc → Hp → Prop) : PV → Loc → Hp → Prop := fun x l σ => (match x with | .d .none => True | .d (.int _) => True | _ => False) ∧ Q .next l σ
noncomputable abbrev KAs (x : Str) (Q : AF → Loc → Hp → Prop) : PV → Loc → Hp → Prop := fun v l σ => Q .next (setL x v l) σ
noncomputable abbrev KN (Q : AF → Loc → Hp → Prop) : Unit → Loc → Hp → Prop := fun _ => Q .next
noncomputable abbrev KA2 (attr : Str) (v : PV) (Q : AF → Loc → Hp → Prop) : PV → Loc → Hp → Prop := fun ov l σ => Op2 c (fun ov v => setAttr ov attr v) (fun _ _ _ => True) ov v l σ (KN Q)
noncomputable abbrev KA1 (o : PySem.Expr) (attr : Str) (Q : AF → Loc → Hp → Prop) : PV → Loc → Hp → Prop := fun v l σ => Ev c o l σ (KA2 c attr v Q)
noncomputable abbrev KS3 (v ov : PV) (Q : AF → Loc → Hp → Prop) : PV → Loc → Hp → Prop := fun iv l σ => Op3 c (fun ov iv v => setItem ov iv v) (fun _ _ _ => True) ov iv v l σ (KN Q)
noncomputable abbrev KS2 (i : PySem.Expr) (v : PV) (Q : AF → Loc → Hp → Prop) : PV → Loc → Hp → Prop := fun ov l σ => Ev c i l σ (KS3 c v ov Q)
noncomputable abbrev KS1 (o i : PySem.Expr) (Q : AF → Loc → Hp → Prop) : PV → Loc → Hp → Prop := fun v l σ => Ev c o l σ (KS2 c i v Q)
noncomputable abbrev KG (op : PySem.Operator) (old : PV) (x : Str) (Q : AF → Loc → Hp → Prop) : PV → Loc → Hp → Prop := fun v l σ => Op2 c (inplaceOp op) PRep old v l σ (KAs x Q)
noncomputable abbrev KP2 (a : Addr) (Q : AF → Loc → Hp → Prop) : PV → Loc → Hp → Prop := fun x l σ => ∃ ys, σ a = some (.list ys) ∧ ys.length ≤ 1000000 ∧ Q .next l (setH σ a (.list (ys ++ [x])))
noncomputable abbrev KP1 (e : PySem.Expr) (Q : AF → Loc → Hp → Prop) : PV → Loc → Hp → Prop := fun ov l σ => ∃ a xs, ov = .r a ∧ σ a = some (.list xs) ∧ Ev c e l σ (KP2 a Q)
noncomputable abbrev KOr (pos : Pos) (e2 : PySem.Expr) (es : List PySem.Expr) (Q : PV → Loc → Hp → Prop) : PV → Loc → Hp → Prop := fun v l σ => ∃ b, v = .d (.bool b) ∧ if b then Q v l σ else OrC c pos (e2 :: es) l σ Q
noncomputable abbrev KF1 (x : Addr) (f : Addr) (Q : PV → Loc → Hp → Prop) : List PV → Loc → Hp → Prop := fun xs l σ => Fn c.toGx n (.ref f) (.r x :: xs) σ (KR Q l)
noncomputable abbrev KM (pos : Pos) (name : Str) (es : List PySem.Expr) (Q : PV → Loc → Hp → Prop) : PV → Loc → Hp → Prop := fun ov l σ => ∃ x C dx m f, ov = .r x ∧ σ x = some (.inst C dx) ∧ σ dx = some (.ns m) ∧ lkp name m = none ∧ plainGet c.K C name = true ∧ findIn c.K (.ref C) name = some (some (.ref f)) ∧ isFn c.K (.ref f) = true ∧ keepIn c.K (.ref f) = true ∧
      Evs c pos es l σ (KF1 c n x f Q)
noncomputable abbrev KF2 (id : String) (ov : PV) (Q : PV → Loc → Hp → Prop) : List PV → Loc → Hp → Prop := fun xs l σ => Fn c.toGx n (.builtin id) (ov :: xs) σ (KR Q l)
noncomputable abbrev KMB (pos : Pos) (name : Str) (es : List PySem.Expr) (pl : Sem Bool) (id : String) (Q : PV → Loc → Hp → Prop) : PV → Loc → Hp → Prop := fun ov l σ =>
  (∀ h₁ u, FRel c l σ h₁ → PRep h₁ u ov → ∀ (s : Shared) (Q' : Value × List Value → Shared → Prop), s.heap = h₁ → Q' (.builtin id, [u]) s → wpAny (model c.prog c.w) c.A (getMethod u name pl) Q' NoE s) ∧ Evs c pos es l σ (KF2 c n id ov Q)
end
section
variable {c : Cx} {n : Nat} {loc : Loc} {σ : Hp}
theorem k_append (O : c.Ok n) {o e : PySem.Expr} {apos cpos pos : Pos} {pl : Sem Bool} {Q}
    (h : Ev c o loc σ (KP1 c e Q))
    (he : eval (.Call (.Attribute o "append" apos) [e] [] cpos) c.env = (do
      let ov ← eval o c.env
      standAt apos.atName
      let (f, first) ← holding [ov] (getMethod ov "append" pl)
      callWith cpos f first (backTo cpos (starEach [e] c.env)) [])) (hp : [e].all plainE = true) (hst : starEach [e] c.env = (false, eval e c.env) :: starEach [] c.env)
    (hs : swapsWith (.Call (.Attribute o "append" apos) [e] [] cpos) none pos.line c.env = pure false) :
    Ex1 c (.Expr (.Call (.Attribute o "append" apos) [e] [] cpos) pos) loc σ Q := Ex1_append O h he hp hst hs
theorem k_CallM (O : c.Ok n) {o : PySem.Expr} {name : Str} {apos pos : Pos} {es : List PySem.Expr} {pl : Sem Bool} {Q} (h : Ev c o loc σ (KM c n pos name es Q))
    (he : eval (.Call (.Attribute o name apos) es [] pos) c.env = (do
      let ov ← eval o c.env
      standAt apos.atName
      let (f, first) ← holding [ov] (getMethod ov name pl)
      callWith pos f first (backTo pos (starEach es c.env)) [])) (hp : es.all plainE = true) : Ev c (.Call (.Attribute o name apos) es [] pos) loc σ Q := Ev_CallM O h he hp
theorem k_CallMB (O : c.Ok n) {o : PySem.Expr} {name : Str} {apos pos : Pos} {es : List PySem.Expr} {pl : Sem Bool} {id : String} {Q} (h : Ev c o loc σ (KMB c n pos name es pl id Q))
    (he : eval (.Call (.Attribute o name apos) es [] pos) c.env = (do
      let ov ← eval o c.env
      standAt apos.atName
      let (f, first) ← holding [ov] (getMethod ov name pl)
      callWith pos f first (backTo pos (starEach es c.env)) [])) (hp : es.all plainE = true) : Ev c (.Call (.Attribute o name apos) es [] pos) loc σ Q := Ev_CallMB O h he hp
theorem k_BinOp (O : c.Ok n) {l r : PySem.Expr} {op : PySem.Operator} {pos} {Q} (h : Ev c l loc σ (K2 c r (binaryOp op) Q)) : Ev c (.BinOp l op r pos) loc σ Q := Ev_BinOp O h
theorem k_Compare1 (O : c.Ok n) {l r : PySem.Expr} {op : PySem.CmpOp} {pos} {Q} (h : Ev c l loc σ (K2 c r (compareOp op) Q)) (hm : behindInMarks op r = false) : Ev c (.Compare l [op] [r] pos) loc σ Q := Ev_Compare1 O h hm
theorem k_Sub (O : c.Ok n) {e i : PySem.Expr} {pos} {Q} (h : Ev c e loc σ (K2 c i (subscriptTail e i) Q)) : Ev c (.Subscript e i pos) loc σ Q := Ev_Sub O h
theorem k_Unary {x : PySem.Expr} {op : PySem.UnaryOp} {pos} {Q} (h : Ev c x loc σ (KU c (unaryOp op) Q)) : Ev c (.UnaryOp op x pos) loc σ Q := Ev_Unary h
theorem k_Attr {e : PySem.Expr} {attr : Str} {pos : Pos} {Q} (h : Ev c e loc σ (KU c (fun v => getAttr v attr true) Q))
    (he : eval (.Attribute e attr pos) c.env = (do
      let o ← eval e c.env
      standAt pos.atName
      let r ← holding [o] (getAttr o attr true)
      letTemporaryGo e o r
      pure r)) : Ev c (.Attribute e attr pos) loc σ Q := Ev_Attr h he
theorem k_IfExp {t b o : PySem.Expr} {pos} {Q} (h : IsT c t loc σ (KI c b o Q)) : Ev c (.IfExp t b o pos) loc σ Q := Ev_IfExp h
theorem k_plain {e : PySem.Expr} {Q} (h : Ev c e loc σ (KB Q)) (he : isTrue e c.env (eval e c.env) = (do let v ← eval e c.env; standAt e.pos; holding [v] (truthy v))) : IsT c e loc σ Q := IsT_plain h he
theorem k_IsT1 (O : c.Ok n) {l r : PySem.Expr} {op : PySem.CmpOp} {pos} {Q} (h : Ev c l loc σ (K2 c r (compareOp op) (KB Q))) (hm : behindInMarks op r = false) : IsT c (.Compare l [op] [r] pos) loc σ Q := IsT_Compare1 O h hm
theorem k_IsTOr {x : PySem.Expr} {xs : List PySem.Expr} {pos} {Q} (h : IsT c x loc σ (KO c xs Q)) : IsT c (.BoolOp .Or (x :: xs) pos) loc σ Q := IsT_Or (AllT_Or_cons h)
theorem k_IsTAnd {x : PySem.Expr} {xs : List PySem.Expr} {pos} {Q} (h : IsT c x loc σ (KA c xs Q)) : IsT c (.BoolOp .And (x :: xs) pos) loc σ Q := IsT_And (AllT_And_cons h)
theorem k_AllOr {x : PySem.Expr} {xs : List PySem.Expr} {Q} (h : IsT c x loc σ (KO c xs Q)) : TrAll c .Or (x :: xs) loc σ Q := AllT_Or_cons h
theorem k_AllAnd {x : PySem.Expr} {xs : List PySem.Expr} {Q} (h : IsT c x loc σ (KA c xs Q)) : TrAll c .And (x :: xs) loc σ Q := AllT_And_cons h
theorem k_OrNil {Q} (h : Q false loc σ) : TrAll c .Or [] loc σ Q := AllT_Or_nil h
theorem k_AndNil {Q} (h : Q true loc σ) : TrAll c .And [] loc σ Q := AllT_And_nil h
theorem k_Evs (O : c.Ok n) {pos : Pos} {e : PySem.Expr} {es : List PySem.Expr} {Q} (h : Ev c e loc σ (KE c pos es Q)) (he : starEach (e :: es) c.env = (false, eval e c.env) :: starEach es c.env) : Evs c pos (e :: es) loc σ Q := Evs_cons O h he
theorem k_Tuple (O : c.Ok n) {es : List PySem.Expr} {k} {pos : Pos} {Q} (h : Evs c pos es loc σ (KT Q)) : Ev c (.Tuple es k pos) loc σ Q := Ev_Tuple O h
theorem k_List (O : c.Ok n) {es : List PySem.Expr} {pos : Pos} {Q} (h : Evs c pos es loc σ (KL Q)) : Ev c (.List es pos) loc σ Q := Ev_List O h
theorem k_cons {st : Stmt} {rest : List Stmt} {Q} (h : Ex1 c st loc σ (KS c rest Q)) : Ex c (st :: rest) loc σ Q := Ex_cons h
theorem k_Return {e : PySem.Expr} {pos} {Q} (h : Ev c e loc σ (KRet Q)) : Ex1 c (.Return (some e) pos) loc σ Q := Ex1_Return h
theorem k_If {t : PySem.Expr} {b o : List Stmt} {pos} {Q} (h : IsT c t loc σ (KIf c b o Q)) : Ex1 c (.If t b o pos) loc σ Q := Ex1_If h
theorem k_Expr (O : c.Ok n) {e : PySem.Expr} {pos : Pos} {Q} (h : Ev c e loc σ (KX Q)) (hs : swapsWith e none pos.line c.env = pure false) : Ex1 c (.Expr e pos) loc σ Q := Ex1_Expr O h hs
theorem k_Assign (O : c.Ok n) {x : Str} {pos' pos : Pos} {e : PySem.Expr} {Q} (h : Ev c e loc σ (KAs x Q)) (hk : c.env.kindOf x = some .local) (hs : swapsWith e (some (.Name x pos')) pos.line c.env = pure false) : Ex1 c (.Assign [.Name x pos'] e pos) loc σ Q := Ex1_Assign O h hk hs
theorem k_AssignC (O : c.Ok n) {x : Str} {pos' pos : Pos} {e : PySem.Expr} {Q} (h : Ev c e loc σ (KAs x Q)) (hk : c.env.kindOf x = some .cell) {a : Addr} (hx : c.env.cells.lookup x = some a) (fa : c.F a) (hs : swapsWith e (some (.Name x pos')) pos.line c.env = pure false) : Ex1 c (.Assign [.Name x pos'] e pos) loc σ Q := Ex1_AssignC O h hk hx fa hs
theorem k_AssignAttr (O : c.Ok n) {o e : PySem.Expr} {attr : Str} {pos' pos : Pos} {Q} (h : Ev c e loc σ (KA1 c o attr Q)) (hs : swapsWith e (some (.Attribute o attr pos')) pos.line c.env = pure false) : Ex1 c (.Assign [.Attribute o attr pos'] e pos) loc σ Q := Ex1_AssignAttr O h hs
theorem k_AssignSub (O : c.Ok n) {o i e : PySem.Expr} {pos' pos : Pos} {Q} (h : Ev c e loc σ (KS1 c o i Q)) (hs : swapsWith e (some (.Subscript o i pos')) pos.line c.env = pure false) : Ex1 c (.Assign [.Subscript o i pos'] e pos) loc σ Q := Ex1_AssignSub O h hs
theorem k_Aug (O : c.Ok n) {x : Str} {pos' pos : Pos} {op : PySem.Operator} {e : PySem.Expr} {old : PV} {Q} (hv : lkp x loc = some old) (hk : c.env.kindOf x = some .local) (h : Ev c e loc σ (KG c op old x Q)) : Ex1 c (.AugAssign (.Name x pos') op e pos) loc σ Q := Ex1_Aug O hv hk h
theorem k_OrC {pos : Pos} {e e2 : PySem.Expr} {es : List PySem.Expr} {Q} (h : Ev c e loc σ (KOr c pos e2 es Q)) : OrC c pos (e :: e2 :: es) loc σ Q := OrC_cons h
end
end SFw15
section SKy
noncomputable abbrev gx (w : World) (base : Heap) (mg mb : Str → Option Value) : Gx := ⟨Challenge.rw_no0161_01.row.prog, w, base, heapK w.params, mg, mb⟩
/-- a key of a clause's first argument -/
inductive Key where
  | var | list
  | struct (f : Int)
  | const (t v : Int)
deriving DecidableEq
noncomputable abbrev sv (s : String) : PyData := .str (Str.ofString s)
noncomputable def Key.word : Key → PyData
  | .struct f => .int f
  | .const t v => .tuple [.int t, .int v]
  | _ => .none
noncomputable def Key.toData : Key → PyData
  | .var => .tuple [sv "var"]
  | .list => .tuple [sv "list"]
  | .struct f => .tuple [sv "struct", .int f]
  | .const t v => .tuple [sv "const", .tuple [.int t, .int v]]
noncomputable def Key.kind : Key → String
  | .var => "var"
  | .list => "list"
  | .struct _ => "struct"
  | .const _ _ => "const"
theorem Key.inj {a b : Key} : a.toData = b.toData ↔ a = b := by
  cases a <;> cases b <;> simp [Key.toData, sv, ofString_inj]
theorem Key.nice (a : Key) : nice 20 a.toData = true := by
  have h1 : PyData.strOk (Str.ofString "var") = true := by decide +kernel
  have h2 : PyData.strOk (Str.ofString "list") = true := by decide +kernel
  have h3 : PyData.strOk (Str.ofString "struct") = true := by decide +kernel
  have h4 : PyData.strOk (Str.ofString "const") = true := by decide +kernel
  cases a <;> simp [Key.toData, Mine.nice, sv, h1, h2, h3, h4]
theorem nice_kind (a : Key) : Mine.nice 20 (sv a.kind) = true := by
  have h1 : Mine.nice 20 (sv "var") = true := by decide +kernel
  have h2 : Mine.nice 20 (sv "list") = true := by decide +kernel
  have h3 : Mine.nice 20 (sv "struct") = true := by decide +kernel
  have h4 : Mine.nice 20 (sv "const") = true := by decide +kernel
  cases a <;> assumption
noncomputable def matchK (a b : Key) : Bool := a = .var || b = .var || a = b
/- locals -/
theorem LocLe.nil {l : Loc} : LocLe [] l := fun x pv e => by simp [lkp] at e
theorem LocLe.cons {x : Str} {pv : PV} {l0 l : Loc} (e : lkp x l = some pv) (h : LocLe l0 l) : LocLe ((x, pv) :: l0) l := fun y pw e' => by
  simp only [lkp] at e'
  by_cases hy : y = x
  · rw [if_pos hy] at e'; cases e'; rw [hy]; exact e
  · rw [if_neg hy] at e'; exact h y pw e'
theorem LocLe.refl (l : Loc) : LocLe l l := fun _ _ e => e
theorem LocLe.trans {a b d : Loc} (x : LocLe a b) (y : LocLe b d) : LocLe a d := fun _ _ e => y _ _ (x _ _ e)
theorem LocLe.setL {x : Str} {v : PV} {l0 l : Loc} (h : LocLe l0 l) (hx : lkp x l0 = none) : LocLe l0 (Mine.setL x v l) := fun y pv e => by
  rw [lkp_setL]
  by_cases hy : y = x
  · rw [hy, hx] at e; cases e
  · rw [if_neg hy]; exact h y pv e
theorem Tg.weak {c : Cx} {t : PySem.Expr} {pv : PV} {l0 l : Loc} {σ : Hp} {Q} (h : LocLe l0 l) (t0 : Tg c t pv l0 σ Q) : Tg c t pv l σ Q := fun s u f r => t0 s u (f.le h (Le.refl _)) r
theorem Ex.weak {c : Cx} {t : List Stmt} {l0 l : Loc} {σ : Hp} {Q} (h : LocLe l0 l) (t0 : Ex c t l0 σ Q) : Ex c t l σ Q := Tr.weak h (Le.refl _) t0
theorem Ex_cut {c : Cx} {st : Stmt} {rest : List Stmt} {loc : Loc} {σ : Hp} {Q} (P : Loc → Hp → Prop) (h : Ex1 c st loc σ fun fl l σ' => fl = .next ∧ P l σ') (k : ∀ l σ', P l σ' → Ex c rest l σ' Q) : Ex c (st :: rest) loc σ Q :=
  Ex_cons (Tr.mono h fun fl l σ' ⟨e, p⟩ => by subst e; exact k l σ' p)
theorem kd_of {env : Env} {sc : Scope} {x : Str} {k : NameKind} (h : env.scope = sc) (e : sc.names.lookup x = some k) : env.kindOf x = some k := by
  subst h; exact e
/- a name is looked up -/
theorem sEq_ne {x y : Str} (h : PySem.W.Fast.sEq x y = false) : x ≠ y := fun e => by rw [PySem.W.Fast.sEq_iff.mpr e] at h; cases h
theorem lk_sh {x : Str} {v : PV} {l : Loc} : lkp x (setL x v l) = some v := by rw [lkp_setL, if_pos rfl]
theorem lk_sm {x y : Str} {v : PV} {l : Loc} {o : Option PV} (h : PySem.W.Fast.sEq x y = false) (e : lkp x l = o) : lkp x (setL y v l) = o := by rw [lkp_setL, if_neg (sEq_ne h)]; exact e
theorem lk_ch {x : Str} {v : PV} {l : Loc} : lkp x ((x, v) :: l) = some v := by simp only [lkp, if_pos]
theorem lk_cm {x y : Str} {v : PV} {l : Loc} {o : Option PV} (h : PySem.W.Fast.sEq x y = false) (e : lkp x l = o) : lkp x ((y, v) :: l) = o := by simp only [lkp, if_neg (sEq_ne h)]; exact e
theorem lk_sh2 {x : Str} {v w : PV} {l : Loc} (e : v = w) : lkp x (setL x v l) = some w := e ▸ lk_sh
theorem lk_ch2 {x : Str} {v w : PV} {l : Loc} (e : v = w) : lkp x ((x, v) :: l) = some w := e ▸ lk_ch
theorem lk_nil {x : Str} : lkp x [] = none := rfl
/-- other objects stand -/
noncomputable def Ext (S : List Addr) (σ σ' : Hp) : Prop := ∀ a mo, a ∉ S → σ a = some mo → σ' a = some mo
theorem Ext.refl {S : List Addr} {σ : Hp} : Ext S σ σ := fun _ _ _ e => e
theorem Ext.trans {S : List Addr} {σ σ' σ'' : Hp} (x : Ext S σ σ') (y : Ext S σ' σ'') : Ext S σ σ'' := fun a mo h e => y a mo h (x a mo h e)
theorem Ext.setH {S : List Addr} {σ σ' : Hp} (x : Ext S σ σ') {a : Addr} {mo : MO} (h : a ∈ S) : Ext S σ (setH σ' a mo) := fun b m hb e => by
  have : b ≠ a := fun z => hb (z ▸ h)
  simp only [Mine.setH, if_neg this]; exact x b m hb e
theorem Ext.new {S : List Addr} {σ σ' : Hp} (x : Ext S σ σ') {a : Addr} {mo : MO} (h : σ' a = none) : Ext S σ (Mine.setH σ' a mo) := fun b m hb e => by
  have e' := x b m hb e
  have : b ≠ a := fun z => by rw [z, h] at e'; cases e'
  simp only [Mine.setH, if_neg this]; exact e'
theorem Ext.setNew {S : List Addr} {σ σ' : Hp} (x : Ext S σ σ') {a : Addr} {mo : MO} (h : σ a = none) : Ext S σ (Mine.setH σ' a mo) := fun b m hb e => by
  have : b ≠ a := fun z => by rw [z, h] at e; cases e
  simp only [Mine.setH, if_neg this]; exact x b m hb e
theorem Ext.mono {S T : List Addr} {σ σ' : Hp} (x : Ext S σ σ') (h : ∀ a ∈ S, a ∈ T) : Ext T σ σ' := fun a mo ha e => x a mo (fun z => ha (h a z)) e
theorem setH_self {σ : Hp} {a : Addr} {mo : MO} : setH σ a mo a = some mo := by simp [setH]
theorem setH_ne {σ : Hp} {a b : Addr} {mo : MO} (h : b ≠ a) : setH σ a mo b = σ b := by simp [setH, h]
theorem setH_setH {σ : Hp} {a : Addr} {m m' : MO} : setH (setH σ a m) a m' = setH σ a m' := by
  funext b; simp only [setH]; split <;> rfl
theorem ne_of_some {σ : Hp} {a b : Addr} {mo : MO} (h : σ a = none) (e : σ b = some mo) : b ≠ a := fun z => by rw [z, h] at e; cases e
theorem setH_new {σ : Hp} {a b : Addr} {mo m : MO} (h : σ a = none) (e : σ b = some m) : setH σ a mo b = some m := by rw [setH_ne (ne_of_some h e)]; exact e
theorem upto_get {a b : Int} {i : Nat} {v : PV} (h : ((upto a b).map fun i => PV.d (.int i))[i]? = some v) : v = .d (.int (a + i)) ∧ (i : Int) < b - a := by
  have hlt : i < (b - a).toNat := by
    have := (List.getElem?_eq_some_iff.mp h).1
    simpa [upto] using this
  simp only [upto, List.map_map, List.getElem?_map, List.getElem?_range hlt, Option.map_some] at h
  exact ⟨(Option.some.inj h).symm, by lia⟩
theorem upto_len {a b : Int} : ((upto a b).map fun i => PV.d (.int i)).length = (b - a).toNat := by simp [upto]
theorem items_rng {σ : Hp} {a b : Int} (h1 : -(2 ^ 60) ≤ a) (h2 : a < 2 ^ 60) (h3 : -(2 ^ 60) ≤ b) (h4 : b < 2 ^ 60) : ItemsAre σ (.rng a b) ((upto a b).map fun i => .d (.int i)) := ⟨rfl, h1, h2, h3, h4⟩
theorem take_succ' {α : Type} {l : List α} {i : Nat} {x : α} (h : l[i]? = some x) : l.take (i + 1) = l.take i ++ [x] := by rw [List.take_add_one, h]; rfl
theorem kp_VAR_KEY {P : Params} {h : Heap} (X : (heapK P).In h) : PRep h (.ref 22) (.d Key.var.toData) := by
  have := X 22 _ rfl
  exact reads_tuple_at this rfl rfl (.cons (as := []) (bs := []) (.str _ _) .nil)
theorem kp_LIST_KEY {P : Params} {h : Heap} (X : (heapK P).In h) : PRep h (.ref 23) (.d Key.list.toData) := by
  have := X 23 _ rfl
  exact reads_tuple_at this rfl rfl (.cons (as := []) (bs := []) (.str _ _) .nil)
section
variable {w : World} {base : Heap} {mg mb : Str → Option Value} {A : Around} {F : Addr → Prop} {env : Env} {n : Nat} {loc : Loc} {σ : Hp} {pos : Pos} {Q : PV → Loc → Hp → Prop}
theorem Ev_VAR_KEY (O : Cx.Ok ⟨gx w base mg mb, A, F, env⟩ n) (hk : env.kindOf (Str.ofString "VAR_KEY") = some .globalImplicit) (h : Q (.d Key.var.toData) loc σ) : Ev ⟨gx w base mg mb, A, F, env⟩ (.Name (Str.ofString "VAR_KEY") pos) loc σ Q :=
  Ev_global O hk (v := .ref 22) (by kernel_rfl) (kp_VAR_KEY O.X) h
theorem Ev_LIST_KEY (O : Cx.Ok ⟨gx w base mg mb, A, F, env⟩ n) (hk : env.kindOf (Str.ofString "LIST_KEY") = some .globalImplicit) (h : Q (.d Key.list.toData) loc σ) : Ev ⟨gx w base mg mb, A, F, env⟩ (.Name (Str.ofString "LIST_KEY") pos) loc σ Q :=
  Ev_global O hk (v := .ref 23) (by kernel_rfl) (kp_LIST_KEY O.X) h
theorem Ev_FAIL_LABEL (O : Cx.Ok ⟨gx w base mg mb, A, F, env⟩ n) (hk : env.kindOf (Str.ofString "FAIL_LABEL") = some .globalImplicit) (h : Q (.d (.int (-1))) loc σ) : Ev ⟨gx w base mg mb, A, F, env⟩ (.Name (Str.ofString "FAIL_LABEL") pos) loc σ Q :=
  Ev_global O hk (v := .int (-1) 201) (by kernel_rfl) (mk_int _ _ _) h
theorem Ev_F_MINUS1 (O : Cx.Ok ⟨gx w base mg mb, A, F, env⟩ n) (hk : env.kindOf (Str.ofString "F_MINUS1") = some .globalImplicit) (h : Q (.d (.int (12))) loc σ) : Ev ⟨gx w base mg mb, A, F, env⟩ (.Name (Str.ofString "F_MINUS1") pos) loc σ Q :=
  Ev_global O hk (v := .int (12) 396) (by kernel_rfl) (mk_int _ _ _) h
theorem Ev_F_MINUS (O : Cx.Ok ⟨gx w base mg mb, A, F, env⟩ n) (hk : env.kindOf (Str.ofString "F_MINUS") = some .globalImplicit) (h : Q (.d (.int (13))) loc σ) : Ev ⟨gx w base mg mb, A, F, env⟩ (.Name (Str.ofString "F_MINUS") pos) loc σ Q :=
  Ev_global O hk (v := .int (13) 398) (by kernel_rfl) (mk_int _ _ _) h
theorem Ev_F_PLUS (O : Cx.Ok ⟨gx w base mg mb, A, F, env⟩ n) (hk : env.kindOf (Str.ofString "F_PLUS") = some .globalImplicit) (h : Q (.d (.int (14))) loc σ) : Ev ⟨gx w base mg mb, A, F, env⟩ (.Name (Str.ofString "F_PLUS") pos) loc σ Q :=
  Ev_global O hk (v := .int (14) 400) (by kernel_rfl) (mk_int _ _ _) h
theorem Ev_CON (O : Cx.Ok ⟨gx w base mg mb, A, F, env⟩ n) (hk : env.kindOf (Str.ofString "CON") = some .globalImplicit) (h : Q (.d (.int (4))) loc σ) : Ev ⟨gx w base mg mb, A, F, env⟩ (.Name (Str.ofString "CON") pos) loc σ Q :=
  Ev_global O hk (v := .int (4) 535) (by kernel_rfl) (mk_int _ _ _) h
theorem Ev_INT (O : Cx.Ok ⟨gx w base mg mb, A, F, env⟩ n) (hk : env.kindOf (Str.ofString "INT") = some .globalImplicit) (h : Q (.d (.int (5))) loc σ) : Ev ⟨gx w base mg mb, A, F, env⟩ (.Name (Str.ofString "INT") pos) loc σ Q :=
  Ev_global O hk (v := .int (5) 537) (by kernel_rfl) (mk_int _ _ _) h
end
section
variable {w : World} {base : Heap} {mg mb : Str → Option Value} {A : Around} {F : Addr → Prop} {env : Env} {n : Nat} {loc : Loc} {σ : Hp} {np pos : Pos} {es : List PySem.Expr} {Q : PV → Loc → Hp → Prop}
theorem g_matching (O : Cx.Ok ⟨gx w base mg mb, A, F, env⟩ n) (hk : env.kindOf (Str.ofString "matching") = some .globalImplicit) (hp : es.all plainE = true) (h : Evs ⟨gx w base mg mb, A, F, env⟩ pos es loc σ (KF ⟨gx w base mg mb, A, F, env⟩ n (.ref 30) Q)) : Ev ⟨gx w base mg mb, A, F, env⟩ (.Call (.Name (Str.ofString "matching") np) es [] pos) loc σ Q :=
  Ev_CallG O hk (by kernel_rfl) (by kernel_rfl) h hp (by decide +kernel)
theorem g_all_variable (O : Cx.Ok ⟨gx w base mg mb, A, F, env⟩ n) (hk : env.kindOf (Str.ofString "all_variable") = some .globalImplicit) (hp : es.all plainE = true) (h : Evs ⟨gx w base mg mb, A, F, env⟩ pos es loc σ (KF ⟨gx w base mg mb, A, F, env⟩ n (.ref 37) Q)) : Ev ⟨gx w base mg mb, A, F, env⟩ (.Call (.Name (Str.ofString "all_variable") np) es [] pos) loc σ Q :=
  Ev_CallG O hk (by kernel_rfl) (by kernel_rfl) h hp (by decide +kernel)
theorem g_BlockBuilder (O : Cx.Ok ⟨gx w base mg mb, A, F, env⟩ n) (hk : env.kindOf (Str.ofString "BlockBuilder") = some .globalImplicit) (hp : es.all plainE = true) (h : Evs ⟨gx w base mg mb, A, F, env⟩ pos es loc σ (KF ⟨gx w base mg mb, A, F, env⟩ n (.ref 110) Q)) : Ev ⟨gx w base mg mb, A, F, env⟩ (.Call (.Name (Str.ofString "BlockBuilder") np) es [] pos) loc σ Q :=
  Ev_CallG O hk (by kernel_rfl) (by kernel_rfl) h hp (by decide +kernel)
theorem g_small_block (O : Cx.Ok ⟨gx w base mg mb, A, F, env⟩ n) (hk : env.kindOf (Str.ofString "small_block") = some .globalImplicit) (hp : es.all plainE = true) (h : Evs ⟨gx w base mg mb, A, F, env⟩ pos es loc σ (KF ⟨gx w base mg mb, A, F, env⟩ n (.ref 121) Q)) : Ev ⟨gx w base mg mb, A, F, env⟩ (.Call (.Name (Str.ofString "small_block") np) es [] pos) loc σ Q :=
  Ev_CallG O hk (by kernel_rfl) (by kernel_rfl) h hp (by decide +kernel)
theorem g_chain_block (O : Cx.Ok ⟨gx w base mg mb, A, F, env⟩ n) (hk : env.kindOf (Str.ofString "chain_block") = some .globalImplicit) (hp : es.all plainE = true) (h : Evs ⟨gx w base mg mb, A, F, env⟩ pos es loc σ (KF ⟨gx w base mg mb, A, F, env⟩ n (.ref 128) Q)) : Ev ⟨gx w base mg mb, A, F, env⟩ (.Call (.Name (Str.ofString "chain_block") np) es [] pos) loc σ Q :=
  Ev_CallG O hk (by kernel_rfl) (by kernel_rfl) h hp (by decide +kernel)
theorem g_index_block (O : Cx.Ok ⟨gx w base mg mb, A, F, env⟩ n) (hk : env.kindOf (Str.ofString "index_block") = some .globalImplicit) (hp : es.all plainE = true) (h : Evs ⟨gx w base mg mb, A, F, env⟩ pos es loc σ (KF ⟨gx w base mg mb, A, F, env⟩ n (.ref 135) Q)) : Ev ⟨gx w base mg mb, A, F, env⟩ (.Call (.Name (Str.ofString "index_block") np) es [] pos) loc σ Q :=
  Ev_CallG O hk (by kernel_rfl) (by kernel_rfl) h hp (by decide +kernel)
theorem g_clause_groups (O : Cx.Ok ⟨gx w base mg mb, A, F, env⟩ n) (hk : env.kindOf (Str.ofString "clause_groups") = some .globalImplicit) (hp : es.all plainE = true) (h : Evs ⟨gx w base mg mb, A, F, env⟩ pos es loc σ (KF ⟨gx w base mg mb, A, F, env⟩ n (.ref 142) Q)) : Ev ⟨gx w base mg mb, A, F, env⟩ (.Call (.Name (Str.ofString "clause_groups") np) es [] pos) loc σ Q :=
  Ev_CallG O hk (by kernel_rfl) (by kernel_rfl) h hp (by decide +kernel)
theorem g_group_block (O : Cx.Ok ⟨gx w base mg mb, A, F, env⟩ n) (hk : env.kindOf (Str.ofString "group_block") = some .globalImplicit) (hp : es.all plainE = true) (h : Evs ⟨gx w base mg mb, A, F, env⟩ pos es loc σ (KF ⟨gx w base mg mb, A, F, env⟩ n (.ref 149) Q)) : Ev ⟨gx w base mg mb, A, F, env⟩ (.Call (.Name (Str.ofString "group_block") np) es [] pos) loc σ Q :=
  Ev_CallG O hk (by kernel_rfl) (by kernel_rfl) h hp (by decide +kernel)
theorem g_fixed_atoms (O : Cx.Ok ⟨gx w base mg mb, A, F, env⟩ n) (hk : env.kindOf (Str.ofString "fixed_atoms") = some .globalImplicit) (hp : es.all plainE = true) (h : Evs ⟨gx w base mg mb, A, F, env⟩ pos es loc σ (KF ⟨gx w base mg mb, A, F, env⟩ n (.ref 156) Q)) : Ev ⟨gx w base mg mb, A, F, env⟩ (.Call (.Name (Str.ofString "fixed_atoms") np) es [] pos) loc σ Q :=
  Ev_CallG O hk (by kernel_rfl) (by kernel_rfl) h hp (by decide +kernel)
theorem g_fixed_functors (O : Cx.Ok ⟨gx w base mg mb, A, F, env⟩ n) (hk : env.kindOf (Str.ofString "fixed_functors") = some .globalImplicit) (hp : es.all plainE = true) (h : Evs ⟨gx w base mg mb, A, F, env⟩ pos es loc σ (KF ⟨gx w base mg mb, A, F, env⟩ n (.ref 163) Q)) : Ev ⟨gx w base mg mb, A, F, env⟩ (.Call (.Name (Str.ofString "fixed_functors") np) es [] pos) loc σ Q :=
  Ev_CallG O hk (by kernel_rfl) (by kernel_rfl) h hp (by decide +kernel)
theorem g_Symbols (O : Cx.Ok ⟨gx w base mg mb, A, F, env⟩ n) (hk : env.kindOf (Str.ofString "Symbols") = some .globalImplicit) (hp : es.all plainE = true) (h : Evs ⟨gx w base mg mb, A, F, env⟩ pos es loc σ (KF ⟨gx w base mg mb, A, F, env⟩ n (.ref 250) Q)) : Ev ⟨gx w base mg mb, A, F, env⟩ (.Call (.Name (Str.ofString "Symbols") np) es [] pos) loc σ Q :=
  Ev_CallG O hk (by kernel_rfl) (by kernel_rfl) h hp (by decide +kernel)
theorem g_ClauseCode (O : Cx.Ok ⟨gx w base mg mb, A, F, env⟩ n) (hk : env.kindOf (Str.ofString "ClauseCode") = some .globalImplicit) (hp : es.all plainE = true) (h : Evs ⟨gx w base mg mb, A, F, env⟩ pos es loc σ (KF ⟨gx w base mg mb, A, F, env⟩ n (.ref 271) Q)) : Ev ⟨gx w base mg mb, A, F, env⟩ (.Call (.Name (Str.ofString "ClauseCode") np) es [] pos) loc σ Q :=
  Ev_CallG O hk (by kernel_rfl) (by kernel_rfl) h hp (by decide +kernel)
theorem g_law_row (O : Cx.Ok ⟨gx w base mg mb, A, F, env⟩ n) (hk : env.kindOf (Str.ofString "_law_row") = some .globalImplicit) (hp : es.all plainE = true) (h : Evs ⟨gx w base mg mb, A, F, env⟩ pos es loc σ (KF ⟨gx w base mg mb, A, F, env⟩ n (.ref 282) Q)) : Ev ⟨gx w base mg mb, A, F, env⟩ (.Call (.Name (Str.ofString "_law_row") np) es [] pos) loc σ Q :=
  Ev_CallG O hk (by kernel_rfl) (by kernel_rfl) h hp (by decide +kernel)
theorem g_law_next (O : Cx.Ok ⟨gx w base mg mb, A, F, env⟩ n) (hk : env.kindOf (Str.ofString "_law_next") = some .globalImplicit) (hp : es.all plainE = true) (h : Evs ⟨gx w base mg mb, A, F, env⟩ pos es loc σ (KF ⟨gx w base mg mb, A, F, env⟩ n (.ref 289) Q)) : Ev ⟨gx w base mg mb, A, F, env⟩ (.Call (.Name (Str.ofString "_law_next") np) es [] pos) loc σ Q :=
  Ev_CallG O hk (by kernel_rfl) (by kernel_rfl) h hp (by decide +kernel)
theorem g_law_key (O : Cx.Ok ⟨gx w base mg mb, A, F, env⟩ n) (hk : env.kindOf (Str.ofString "_law_key") = some .globalImplicit) (hp : es.all plainE = true) (h : Evs ⟨gx w base mg mb, A, F, env⟩ pos es loc σ (KF ⟨gx w base mg mb, A, F, env⟩ n (.ref 296) Q)) : Ev ⟨gx w base mg mb, A, F, env⟩ (.Call (.Name (Str.ofString "_law_key") np) es [] pos) loc σ Q :=
  Ev_CallG O hk (by kernel_rfl) (by kernel_rfl) h hp (by decide +kernel)
theorem g_law_matches (O : Cx.Ok ⟨gx w base mg mb, A, F, env⟩ n) (hk : env.kindOf (Str.ofString "_law_matches") = some .globalImplicit) (hp : es.all plainE = true) (h : Evs ⟨gx w base mg mb, A, F, env⟩ pos es loc σ (KF ⟨gx w base mg mb, A, F, env⟩ n (.ref 303) Q)) : Ev ⟨gx w base mg mb, A, F, env⟩ (.Call (.Name (Str.ofString "_law_matches") np) es [] pos) loc σ Q :=
  Ev_CallG O hk (by kernel_rfl) (by kernel_rfl) h hp (by decide +kernel)
theorem g_law_target (O : Cx.Ok ⟨gx w base mg mb, A, F, env⟩ n) (hk : env.kindOf (Str.ofString "_law_target") = some .globalImplicit) (hp : es.all plainE = true) (h : Evs ⟨gx w base mg mb, A, F, env⟩ pos es loc σ (KF ⟨gx w base mg mb, A, F, env⟩ n (.ref 310) Q)) : Ev ⟨gx w base mg mb, A, F, env⟩ (.Call (.Name (Str.ofString "_law_target") np) es [] pos) loc σ Q :=
  Ev_CallG O hk (by kernel_rfl) (by kernel_rfl) h hp (by decide +kernel)
theorem g_law_visits (O : Cx.Ok ⟨gx w base mg mb, A, F, env⟩ n) (hk : env.kindOf (Str.ofString "_law_visits") = some .globalImplicit) (hp : es.all plainE = true) (h : Evs ⟨gx w base mg mb, A, F, env⟩ pos es loc σ (KF ⟨gx w base mg mb, A, F, env⟩ n (.ref 317) Q)) : Ev ⟨gx w base mg mb, A, F, env⟩ (.Call (.Name (Str.ofString "_law_visits") np) es [] pos) loc σ Q :=
  Ev_CallG O hk (by kernel_rfl) (by kernel_rfl) h hp (by decide +kernel)
theorem g_len (O : Cx.Ok ⟨gx w base mg mb, A, F, env⟩ n) (hk : env.kindOf (Str.ofString "len") = some .globalImplicit) (hp : es.all plainE = true) (h : Evs ⟨gx w base mg mb, A, F, env⟩ pos es loc σ (KF ⟨gx w base mg mb, A, F, env⟩ n (.builtin "len") Q)) : Ev ⟨gx w base mg mb, A, F, env⟩ (.Call (.Name (Str.ofString "len") np) es [] pos) loc σ Q :=
  Ev_CallB O hk (by kernel_rfl) (by kernel_rfl) h hp (by decide +kernel) (by decide +kernel)
theorem g_range (O : Cx.Ok ⟨gx w base mg mb, A, F, env⟩ n) (hk : env.kindOf (Str.ofString "range") = some .globalImplicit) (hp : es.all plainE = true) (h : Evs ⟨gx w base mg mb, A, F, env⟩ pos es loc σ (KF ⟨gx w base mg mb, A, F, env⟩ n (.type "range") Q)) : Ev ⟨gx w base mg mb, A, F, env⟩ (.Call (.Name (Str.ofString "range") np) es [] pos) loc σ Q :=
  Ev_CallT O hk (by kernel_rfl) (by kernel_rfl) h hp (by decide +kernel) (by decide +kernel)
theorem g_list (O : Cx.Ok ⟨gx w base mg mb, A, F, env⟩ n) (hk : env.kindOf (Str.ofString "list") = some .globalImplicit) (hp : es.all plainE = true) (h : Evs ⟨gx w base mg mb, A, F, env⟩ pos es loc σ (KF ⟨gx w base mg mb, A, F, env⟩ n (.type "list") Q)) : Ev ⟨gx w base mg mb, A, F, env⟩ (.Call (.Name (Str.ofString "list") np) es [] pos) loc σ Q :=
  Ev_CallT O hk (by kernel_rfl) (by kernel_rfl) h hp (by decide +kernel) (by decide +kernel)
theorem g_tuple (O : Cx.Ok ⟨gx w base mg mb, A, F, env⟩ n) (hk : env.kindOf (Str.ofString "tuple") = some .globalImplicit) (hp : es.all plainE = true) (h : Evs ⟨gx w base mg mb, A, F, env⟩ pos es loc σ (KF ⟨gx w base mg mb, A, F, env⟩ n (.type "tuple") Q)) : Ev ⟨gx w base mg mb, A, F, env⟩ (.Call (.Name (Str.ofString "tuple") np) es [] pos) loc σ Q :=
  Ev_CallT O hk (by kernel_rfl) (by kernel_rfl) h hp (by decide +kernel) (by decide +kernel)
end
end SKy
section SBd
/-- rows of a block -/
inductive Ins where
  | fail
  | label (l : Int)
  | try_ (l ar : Int)
  | retry (l : Int)
  | trust (l : Int)
  | sot (v c l s : Int)
  | soc (t : List (Key × Int)) (d : Int)
  | sos (t : List (Key × Int)) (d : Int)
  | getc (t p : Int)
  | proceed
noncomputable def pairData (p : Key × Int) : PyData := .tuple [p.1.word, .int p.2]
noncomputable def Ins.toData : Ins → PyData
  | .fail => .tuple [sv "fail"]
  | .label l => .tuple [sv "label", .int l]
  | .try_ l ar => .tuple [sv "try", .int l, .int ar]
  | .retry l => .tuple [sv "retry", .int l]
  | .trust l => .tuple [sv "trust", .int l]
  | .sot v c l s => .tuple [sv "switch_on_term", .int v, .int c, .int l, .int s]
  | .soc t d => .tuple [sv "switch_on_constant", .tuple (t.map pairData), .int d]
  | .sos t d => .tuple [sv "switch_on_structure", .tuple (t.map pairData), .int d]
  | .getc t p => .tuple [sv "get_constant", .tuple [.int t, .int p], .tuple [sv "x", .int 1]]
  | .proceed => .tuple [sv "proceed"]
noncomputable abbrev insPV (r : Ins) : PV := .d r.toData
noncomputable abbrev intPV (i : Int) : PV := .d (.int i)
structure Code where
  key : Key
  ins : List Ins
structure BA where
  (x dx cs rw ch kn : Addr)
structure BS where
  ar : Int
  rows : List Ins
  chains : List (Int × List Int)
  known : List (List Int × Int)
  next : Int
noncomputable def chainPV (p : Int × List Int) : PV := .d (.tuple [.int p.1, .tuple (p.2.map .int)])
noncomputable def knownPV (p : List Int × Int) : List Int × PV := (p.1, .d (.int p.2))
noncomputable abbrev bldNs (b : BA) (s : BS) : List (Str × PV) :=
  [(Str.ofString "arity", intPV s.ar), (Str.ofString "codes", .r b.cs), (Str.ofString "rows", .r b.rw), (Str.ofString "chains", .r b.ch), (Str.ofString "known", .r b.kn), (Str.ofString "next_label", intPV s.next)]
structure Bld (σ : Hp) (b : BA) (s : BS) : Prop where
  ix : σ b.x = some (.inst 110 b.dx)
  ns : σ b.dx = some (.ns (bldNs b s))
  rw : σ b.rw = some (.list (s.rows.map insPV))
  ch : σ b.ch = some (.list (s.chains.map chainPV))
  kn : σ b.kn = some (.dT (s.known.map knownPV))
  ne : b.rw ≠ b.ch
noncomputable def BA.S (b : BA) : List Addr := [b.dx, b.rw, b.ch, b.kn]
/-- lists outside -/
theorem Bld.new_notin {σ : Hp} {b : BA} {s : BS} (B : Bld σ b s) {a : Addr} (h : σ a = none) : a ∉ b.S := by
  intro hm
  simp only [BA.S, List.mem_cons, List.not_mem_nil, or_false] at hm
  rcases hm with e | e | e | e <;> rw [e] at h
  · rw [B.ns] at h; cases h
  · rw [B.rw] at h; cases h
  · rw [B.ch] at h; cases h
  · rw [B.kn] at h; cases h
theorem Bld.new {σ : Hp} {b : BA} {s : BS} (B : Bld σ b s) {a : Addr} {mo : MO} (h : σ a = none) : Bld (setH σ a mo) b s :=
  ⟨setH_new h B.ix, setH_new h B.ns, setH_new h B.rw, setH_new h B.ch, setH_new h B.kn, B.ne⟩
theorem Bld.off {σ : Hp} {b : BA} {s : BS} (B : Bld σ b s) {a : Addr} {mo : MO} (h1 : a ≠ b.x) (h2 : a ∉ b.S) : Bld (setH σ a mo) b s := by
  simp only [BA.S, List.mem_cons, List.not_mem_nil, or_false, not_or] at h2
  obtain ⟨n1, n2, n3, n4⟩ := h2
  exact ⟨(setH_ne h1.symm).trans B.ix, (setH_ne (Ne.symm n1)).trans B.ns, (setH_ne (Ne.symm n2)).trans B.rw, (setH_ne (Ne.symm n3)).trans B.ch, (setH_ne (Ne.symm n4)).trans B.kn, B.ne⟩
theorem Bld.ext {σ σ' : Hp} {b : BA} {s : BS} {T : List Addr} (B : Bld σ b s) (E : Ext T σ σ') (h : ∀ a ∈ T, σ a = none ∨ (a ≠ b.x ∧ a ∉ b.S)) : Bld σ' b s := by
  have nt : ∀ {a mo}, σ a = some mo → (a = b.x ∨ a ∈ b.S) → a ∉ T := fun {a mo} e hm ht => by
    rcases h a ht with h | ⟨h1, h2⟩
    · rw [e] at h; cases h
    · rcases hm with hm | hm
      · exact h1 hm
      · exact h2 hm
  exact ⟨E _ _ (nt B.ix (.inl rfl)) B.ix, E _ _ (nt B.ns (.inr (by simp [BA.S]))) B.ns, E _ _ (nt B.rw (.inr (by simp [BA.S]))) B.rw, E _ _ (nt B.ch (.inr (by simp [BA.S]))) B.ch, E _ _ (nt B.kn (.inr (by simp [BA.S]))) B.kn, B.ne⟩
theorem setL_next {b : BA} {s : BS} {l : Int} : setL (Str.ofString "next_label") (.d (.int l)) (bldNs b s) = bldNs b { s with next := l } := by
  simp only [bldNs, setL, ofString_inj, String.reduceEq, if_true, if_false]
/-- its dict is stored anew -/
theorem Bld.setNs {σ : Hp} {b : BA} {s : BS} (B : Bld σ b s) {l : Int} : Bld (setH σ b.dx (.ns (bldNs b { s with next := l }))) b { s with next := l } := by
  have h1 := B.ix; have h2 := B.ns; have h3 := B.rw; have h4 := B.ch; have h5 := B.kn
  refine ⟨?_, setH_self, ?_, ?_, ?_, B.ne⟩
  · rw [setH_ne (fun z => by rw [z, h2] at h1; cases h1)]; exact h1
  · rw [setH_ne (fun z => by rw [z, h2] at h3; cases h3)]; exact h3
  · rw [setH_ne (fun z => by rw [z, h2] at h4; cases h4)]; exact h4
  · rw [setH_ne (fun z => by rw [z, h2] at h5; cases h5)]; exact h5
theorem Bld.setRw {σ : Hp} {b : BA} {s : BS} (B : Bld σ b s) {r : List Ins} {xs : List PV} (e : xs = r.map insPV) : Bld (setH σ b.rw (.list xs)) b { s with rows := r } := by
  subst e
  have h1 := B.ix; have h2 := B.ns; have h3 := B.rw; have h4 := B.ch; have h5 := B.kn
  refine ⟨?_, ?_, setH_self, ?_, ?_, B.ne⟩
  · rw [setH_ne (fun z => by rw [z, h3] at h1; cases h1)]; exact h1
  · rw [setH_ne (fun z => by rw [z, h3] at h2; cases h2)]; exact h2
  · rw [setH_ne B.ne.symm]; exact h4
  · rw [setH_ne (fun z => by rw [z, h3] at h5; cases h5)]; exact h5
theorem Bld.setCh {σ : Hp} {b : BA} {s : BS} (B : Bld σ b s) {r : List (Int × List Int)} {xs : List PV} (e : xs = r.map chainPV) : Bld (setH σ b.ch (.list xs)) b { s with chains := r } := by
  subst e
  have h1 := B.ix; have h2 := B.ns; have h3 := B.rw; have h4 := B.ch; have h5 := B.kn
  refine ⟨?_, ?_, ?_, setH_self, ?_, B.ne⟩
  · rw [setH_ne (fun z => by rw [z, h4] at h1; cases h1)]; exact h1
  · rw [setH_ne (fun z => by rw [z, h4] at h2; cases h2)]; exact h2
  · rw [setH_ne B.ne]; exact h3
  · rw [setH_ne (fun z => by rw [z, h4] at h5; cases h5)]; exact h5
theorem Bld.setKn {σ : Hp} {b : BA} {s : BS} (B : Bld σ b s) {r : List (List Int × Int)} {xs : List (List Int × PV)} (e : xs = r.map knownPV) : Bld (setH σ b.kn (.dT xs)) b { s with known := r } := by
  subst e
  have h1 := B.ix; have h2 := B.ns; have h3 := B.rw; have h4 := B.ch; have h5 := B.kn
  refine ⟨?_, ?_, ?_, ?_, setH_self, B.ne⟩
  · rw [setH_ne (fun z => by rw [z, h5] at h1; cases h1)]; exact h1
  · rw [setH_ne (fun z => by rw [z, h5] at h2; cases h2)]; exact h2
  · rw [setH_ne (fun z => by rw [z, h5] at h3; cases h3)]; exact h3
  · rw [setH_ne (fun z => by rw [z, h5] at h4; cases h4)]; exact h4
/-- one clause -/
structure CodeAt (S : List Addr) (σ : Hp) (a : Addr) (k : Code) : Prop where
  at_ : ∃ dx il f u, σ a = some (.inst 271 dx) ∧ σ dx = some (.ns [(Str.ofString "functor", f), (Str.ofString "key", .d k.key.toData), (Str.ofString "instrs", .r il), (Str.ofString "used", u)]) ∧ σ il = some (.list (k.ins.map insPV)) ∧ a ∉ S ∧ dx ∉ S ∧ il ∉ S
structure Codes (S : List Addr) (σ : Hp) (cs : Addr) (codes : List Code) : Prop where
  at_ : ∃ as : List Addr, σ cs = some (.list (as.map .r)) ∧ cs ∉ S ∧ All2 (CodeAt S σ) as codes
theorem CodeAt.ext {S T : List Addr} {σ σ' : Hp} {a : Addr} {k : Code} (h : CodeAt S σ a k) (E : Ext T σ σ') (hT : ∀ a ∈ T, σ a = none ∨ a ∈ S) : CodeAt S σ' a k := by
  obtain ⟨dx, il, f, u, h1, h2, h3, n1, n2, n3⟩ := h.at_
  have nt : ∀ {a mo}, σ a = some mo → a ∉ S → a ∉ T := fun {a mo} e hs ht => by
    rcases hT a ht with h | h
    · rw [e] at h; cases h
    · exact hs h
  exact ⟨dx, il, f, u, E _ _ (nt h1 n1) h1, E _ _ (nt h2 n2) h2, E _ _ (nt h3 n3) h3, n1, n2, n3⟩
theorem Codes.ext {S T : List Addr} {σ σ' : Hp} {cs : Addr} {codes : List Code} (h : Codes S σ cs codes) (E : Ext T σ σ') (hT : ∀ a ∈ T, σ a = none ∨ a ∈ S) : Codes S σ' cs codes := by
  obtain ⟨as, h1, n1, r⟩ := h.at_
  refine ⟨as, E _ _ (fun ht => ?_) h1, n1, r.mono fun a k x => x.ext E hT⟩
  rcases hT _ ht with h | h
  · rw [h1] at h; cases h
  · exact n1 h
theorem Codes.new {S : List Addr} {σ : Hp} {cs : Addr} {codes : List Code} (h : Codes S σ cs codes) {a : Addr} {mo : MO} (ha : σ a = none) : Codes S (setH σ a mo) cs codes := h.ext (T := []) (Ext.refl.new ha) (by simp)
theorem Codes.get {S : List Addr} {σ : Hp} {cs : Addr} {codes : List Code} (h : Codes S σ cs codes) : ∃ xs, σ cs = some (.list xs) ∧ xs.length = codes.length ∧ cs ∉ S ∧ ∀ {i : Nat} {k : Code}, codes[i]? = some k → ∃ a, xs[i]? = some (.r a) ∧ CodeAt S σ a k := by
  obtain ⟨as, h1, n1, r⟩ := h.at_
  refine ⟨_, h1, by rw [List.length_map, r.length], n1, fun {i k} e => ?_⟩
  obtain ⟨a, ha, c⟩ := r.get e
  exact ⟨a, by simp [ha], c⟩
/- what the methods compute -/
noncomputable def chainRows (ar : Int) (xs : List Int) : List Ins := .try_ (xs.headD 0) ar :: ((xs.drop 1).dropLast.map .retry) ++ [.trust (xs.getLastD 0)]
noncomputable def chainF (s : BS) (ps : List Int) : Int × BS :=
  match ps with
  | [] => (-1, s)
  | [p] => (p, s)
  | ps => match (s.known.find? (fun q => q.1 = ps)) with
    | some q => (q.2, s)
    | none => (s.next, { s with next := s.next + 1, known := s.known ++ [(ps, s.next)], chains := s.chains ++ [(s.next, ps)] })
noncomputable def keyAt (codes : List Code) (p : Int) : Key := (codes[p.toNat]?.map (·.key)).getD .var
noncomputable def InR (codes : List Code) (ps : List Int) : Prop := ∀ p ∈ ps, 0 ≤ p ∧ p < codes.length
theorem InR.get {codes : List Code} {ps : List Int} (h : InR codes ps) {i : Nat} {p : Int} (e : ps[i]? = some p) : ∃ k, codes[p.toNat]? = some k ∧ keyAt codes p = k.key ∧ 0 ≤ p ∧ p < codes.length := by
  obtain ⟨h1, h2⟩ := h p (List.mem_of_getElem? e)
  have hlt : p.toNat < codes.length := by lia
  refine ⟨codes[p.toNat], by simp [hlt], ?_, h1, h2⟩
  simp [keyAt, hlt]
noncomputable def matchPlaces (codes : List Code) (ps : List Int) (k : Key) : List Int := ps.filter fun p => matchK (keyAt codes p) k
noncomputable def varPlaces (codes : List Code) (ps : List Int) : List Int := ps.filter fun p => keyAt codes p = .var
theorem filter_take_succ {α : Type} {l : List α} {i : Nat} {x : α} {f : α → Bool} (h : l[i]? = some x) : (l.take (i + 1)).filter f = if f x then (l.take i).filter f ++ [x] else (l.take i).filter f := by
  rw [take_succ' h, List.filter_append]
  by_cases hf : f x <;> simp [hf]
theorem matchPlaces_succ {codes : List Code} {ps : List Int} {i : Nat} {p : Int} {k : Key} (h : ps[i]? = some p) :
    matchPlaces codes (ps.take (i + 1)) k = if matchK (keyAt codes p) k then matchPlaces codes (ps.take i) k ++ [p] else matchPlaces codes (ps.take i) k := filter_take_succ h
theorem varPlaces_succ {codes : List Code} {ps : List Int} {i : Nat} {p : Int} (h : ps[i]? = some p) :
    varPlaces codes (ps.take (i + 1)) = if keyAt codes p = .var then varPlaces codes (ps.take i) ++ [p] else varPlaces codes (ps.take i) := by
  unfold varPlaces
  rw [filter_take_succ h]
  by_cases e : keyAt codes p = .var <;> simp [e]
theorem map_get {α β : Type} {l : List α} {f : α → β} {i : Nat} {v : β} (h : (l.map f)[i]? = some v) : ∃ x, l[i]? = some x ∧ v = f x := by
  rw [List.getElem?_map] at h
  cases e : l[i]? with
  | none => rw [e] at h; cases h
  | some x => rw [e] at h; exact ⟨x, rfl, (Option.some.inj h).symm⟩
theorem filter_len {α : Type} {l : List α} {f : α → Bool} {i : Nat} : ((l.take i).filter f).length ≤ l.length := Nat.le_trans (List.length_filter_le _ _) (by rw [List.length_take]; lia)
noncomputable def tableStep (codes : List Code) (ps : List Int) (kd : String) (a : List (Key × Int) × List Key × BS) (p : Int) : List (Key × Int) × List Key × BS :=
  if (keyAt codes p).kind = kd ∧ keyAt codes p ∉ a.2.1 then
    (a.1 ++ [(keyAt codes p, (chainF a.2.2 (matchPlaces codes ps (keyAt codes p))).1)], a.2.1 ++ [keyAt codes p], (chainF a.2.2 (matchPlaces codes ps (keyAt codes p))).2)
  else a
noncomputable def tableF (codes : List Code) (ps : List Int) (kd : String) (s : BS) : List (Key × Int) × List Key × BS := ps.foldl (tableStep codes ps kd) ([], [], s)
theorem chainF_len (s : BS) (ps : List Int) : (chainF s ps).2.known.length ≤ s.known.length + 1 ∧ (chainF s ps).2.chains.length ≤ s.chains.length + 1 := by
  unfold chainF
  split
  · simp
  · simp
  · split <;> simp
theorem chainF_same (s : BS) (ps : List Int) : (chainF s ps).2.rows = s.rows ∧ (chainF s ps).2.ar = s.ar := by
  unfold chainF
  split
  · exact ⟨rfl, rfl⟩
  · exact ⟨rfl, rfl⟩
  · split <;> exact ⟨rfl, rfl⟩
theorem tableFold_same {codes : List Code} {ps : List Int} {kd : String} : ∀ (qs : List Int) (a : List (Key × Int) × List Key × BS), (qs.foldl (tableStep codes ps kd) a).2.2.rows = a.2.2.rows ∧ (qs.foldl (tableStep codes ps kd) a).2.2.ar = a.2.2.ar
  | [], a => ⟨rfl, rfl⟩
  | q :: qs, a => by
    rw [List.foldl_cons]
    have h := tableFold_same (codes := codes) (ps := ps) (kd := kd) qs (tableStep codes ps kd a q)
    have h2 : (tableStep codes ps kd a q).2.2.rows = a.2.2.rows ∧ (tableStep codes ps kd a q).2.2.ar = a.2.2.ar := by
      unfold tableStep
      split
      · exact chainF_same _ _
      · exact ⟨rfl, rfl⟩
    exact ⟨h.1.trans h2.1, h.2.trans h2.2⟩
theorem tableStep_len {codes : List Code} {ps : List Int} {kd : String} {a : List (Key × Int) × List Key × BS} {p : Int} :
    (tableStep codes ps kd a p).2.2.known.length ≤ a.2.2.known.length + 1 ∧ (tableStep codes ps kd a p).2.2.chains.length ≤ a.2.2.chains.length + 1 ∧ (tableStep codes ps kd a p).1.length ≤ a.1.length + 1 ∧
      (tableStep codes ps kd a p).2.1.length ≤ a.2.1.length + 1 := by
  unfold tableStep
  split
  · have := chainF_len a.2.2 (matchPlaces codes ps (keyAt codes p))
    refine ⟨this.1, this.2, ?_, ?_⟩ <;> simp
  · exact ⟨Nat.le_succ _, Nat.le_succ _, Nat.le_succ _, Nat.le_succ _⟩
theorem tableFold_len {codes : List Code} {ps : List Int} {kd : String} : ∀ (qs : List Int) (a : List (Key × Int) × List Key × BS),
    (qs.foldl (tableStep codes ps kd) a).2.2.known.length ≤ a.2.2.known.length + qs.length ∧ (qs.foldl (tableStep codes ps kd) a).2.2.chains.length ≤ a.2.2.chains.length + qs.length ∧ (qs.foldl (tableStep codes ps kd) a).1.length ≤ a.1.length + qs.length ∧
      (qs.foldl (tableStep codes ps kd) a).2.1.length ≤ a.2.1.length + qs.length
  | [], a => by simp
  | q :: qs, a => by
    have h1 := tableFold_len (codes := codes) (ps := ps) (kd := kd) qs (tableStep codes ps kd a q)
    have h2 := tableStep_len (codes := codes) (ps := ps) (kd := kd) (a := a) (p := q)
    simp only [List.foldl_cons, List.length_cons]
    lia
theorem foldl_take_succ {α β : Type} {f : β → α → β} {a : β} {l : List α} {i : Nat} {x : α} (h : l[i]? = some x) : (l.take (i + 1)).foldl f a = f ((l.take i).foldl f a) x := by
  rw [take_succ' h, List.foldl_append]; rfl
/-- the keys seen are of the kind -/
theorem tableFold_seen {codes : List Code} {ps : List Int} {kd : String} : ∀ (qs : List Int) (a : List (Key × Int) × List Key × BS), (∀ k ∈ a.2.1, k.kind = kd) → ∀ k ∈ (qs.foldl (tableStep codes ps kd) a).2.1, k.kind = kd
  | [], a, h => h
  | q :: qs, a, h => by
    refine tableFold_seen qs _ ?_
    unfold tableStep
    split
    · rename_i hc
      intro k hk
      rcases List.mem_append.mp hk with hk | hk
      · exact h k hk
      · rw [List.mem_singleton.mp hk]; exact hc.1
    · exact h
noncomputable def wordI : Key → Int
  | .struct f => f
  | _ => 0
noncomputable def wordL : Key → List Int
  | .const t v => [t, v]
  | _ => []
theorem lkD_seenL {seen : List Key} (h : ∀ k ∈ seen, k.kind = "const") {t v : Int} : (lkD [t, v] (seen.map fun k => (wordL k, PV.d (.bool true)))).isSome = decide (Key.const t v ∈ seen) := by
  induction seen with
  | nil => rfl
  | cons k r ih =>
    have hk := h k (.head _)
    cases k <;> simp only [Key.kind, reduceCtorEq, String.reduceEq] at hk
    rename_i a b
    have ih := ih fun k hk => h k (.tail _ hk)
    show (if [a, b] = [t, v] then some (PV.d (.bool true)) else lkD [t, v] (r.map fun k => (wordL k, PV.d (.bool true)))).isSome = _
    simp only [List.mem_cons, Key.const.injEq]
    by_cases e : [a, b] = [t, v]
    · simp only [List.cons.injEq, and_true] at e
      obtain ⟨rfl, rfl⟩ := e
      simp
    · rw [if_neg e, ih]
      simp only [List.cons.injEq, and_true] at e
      have : ¬ (t = a ∧ v = b) := fun z => e ⟨z.1.symm, z.2.symm⟩
      simp [this]
theorem lkD_seenI {seen : List Key} (h : ∀ k ∈ seen, k.kind = "struct") {f : Int} : (lkD f (seen.map fun k => (wordI k, PV.d (.bool true)))).isSome = decide (Key.struct f ∈ seen) := by
  induction seen with
  | nil => rfl
  | cons k r ih =>
    have hk := h k (.head _)
    cases k <;> simp only [Key.kind, reduceCtorEq, String.reduceEq] at hk
    rename_i a
    have ih := ih fun k hk => h k (.tail _ hk)
    show (if a = f then some (PV.d (.bool true)) else lkD f (r.map fun k => (wordI k, PV.d (.bool true)))).isSome = _
    simp only [List.mem_cons, Key.struct.injEq]
    by_cases e : a = f
    · subst e; simp
    · rw [if_neg e, ih]
      have : ¬ f = a := fun z => e z.symm
      simp [this]
noncomputable abbrev pairPV (p : Key × Int) : PV := .d (pairData p)
noncomputable def bump (c : Bool) (d : Int) (s : BS) : Int × BS := if c then (s.next, { s with next := s.next + 1 }) else (d, s)
noncomputable def addRows (s : BS) (r : List Ins) : BS := { s with rows := s.rows ++ r }
/-- the rows of a switch and the state behind it -/
noncomputable def switchF (codes : List Code) (ps : List Int) (s : BS) : List Ins × BS :=
  let d := chainF s (varPlaces codes ps)
  let c := tableF codes ps "const" d.2
  let t := tableF codes ps "struct" c.2.2
  let cl := bump (decide (0 < c.1.length)) d.1 t.2.2
  let sl := bump (decide (0 < t.1.length)) d.1 cl.2
  let l := chainF sl.2 (matchPlaces codes ps .list)
  let a := chainF l.2 ps
  (.sot a.1 cl.1 l.1 sl.1 :: (if 0 < c.1.length then [.label cl.1, .soc c.1 d.1] else []) ++ (if 0 < t.1.length then [.label sl.1, .sos t.1 d.1] else []), a.2)
noncomputable def finishRows (codes : List Code) (s : BS) : List Ins :=
  s.rows ++ (s.chains.flatMap fun q => .label q.1 :: chainRows s.ar q.2) ++ (codes.zipIdx.flatMap fun q => .label q.2 :: q.1.ins)
end SBd
section SBd2
theorem IsT.mono' {c : Cx} {e : PySem.Expr} {loc : Loc} {σ : Hp} {Q Q' : Bool → Loc → Hp → Prop} (h : IsT c e loc σ Q) (k : ∀ b l σ', Q b l σ' → Q' b l σ') : IsT c e loc σ Q' := Tr.mono h k
theorem Ex1_cut {c : Cx} {st : Stmt} {loc : Loc} {σ : Hp} {Q} (P : Loc → Hp → Prop) (h : Ex1 c st loc σ fun fl l σ' => fl = .next ∧ P l σ') (k : ∀ l σ', P l σ' → Q .next l σ') : Ex1 c st loc σ Q :=
  Tr.mono h fun fl l σ' ⟨e, p⟩ => by subst e; exact k l σ' p
theorem Codes.toS {S : List Addr} {σ : Hp} {cs : Addr} {codes : List Code} (h : Codes [] σ cs codes) (hS : ∀ a ∈ S, σ a = none) : Codes S σ cs codes := by
  have nn : ∀ {a mo}, σ a = some mo → a ∉ S := fun {a mo} e hm => by rw [hS a hm] at e; cases e
  obtain ⟨as, h1, _, r⟩ := h.at_
  refine ⟨as, h1, nn h1, r.mono fun a k x => ?_⟩
  obtain ⟨dx, il, f, u, i1, i2, i3, _, _, _⟩ := x.at_
  exact ⟨dx, il, f, u, i1, i2, i3, nn i1, nn i2, nn i3⟩
structure ArAt (σ : Hp) (y : Addr) (f ar : Int) : Prop where
  at_ : ∃ dy fl m F t, σ y = some (.inst 250 dy) ∧ σ dy = some (.ns m) ∧ lkp (Str.ofString "functors") m = some (.r fl) ∧ lkp (Str.ofString "arity") m = none ∧ σ fl = some (.list F) ∧ 0 ≤ f ∧ f < 2 ^ 63 ∧ F[f.toNat]? = some (.d (.tuple [.int t, .int ar]))
theorem ArAt.ext {σ σ' : Hp} {y : Addr} {f ar : Int} (h : ArAt σ y f ar) (E : Ext [] σ σ') : ArAt σ' y f ar := by
  obtain ⟨dy, fl, m, F, t, h1, h2, h3, h3', h4, h5⟩ := h.at_
  exact ⟨dy, fl, m, F, t, E _ _ (by simp) h1, E _ _ (by simp) h2, h3, h3', E _ _ (by simp) h4, h5⟩
theorem Ext.nil {S : List Addr} {σ σ' : Hp} (E : Ext S σ σ') (h : ∀ a ∈ S, σ a = none) : Ext [] σ σ' := fun a mo _ e => E a mo (fun hm => by rw [h a hm] at e; cases e) e
noncomputable def smallF : List Code → List Ins
  | [] => [.fail]
  | k :: _ => k.ins
noncomputable def initS (ar : Int) (codes : List Code) : BS := ⟨ar, [], [], [], codes.length⟩
noncomputable def allVar (codes : List Code) : Bool := codes.all fun k => k.key = .var
noncomputable def chainBlockF (ar : Int) (codes : List Code) : List Ins :=
  if codes.length < 2 then smallF codes else finishRows codes { initS ar codes with rows := chainRows ar (upto 0 codes.length) }
noncomputable def indexBlockF (ar : Int) (codes : List Code) : List Ins :=
  if codes.length < 2 then smallF codes
  else if ar = 0 ∨ allVar codes = true then chainBlockF ar codes
  else finishRows codes (addRows (switchF codes (upto 0 codes.length) (initS ar codes)).2 (switchF codes (upto 0 codes.length) (initS ar codes)).1)
noncomputable def groupStep (codes : List Code) (a : List (List Int) × List Int) (p : Int) : List (List Int) × List Int :=
  if keyAt codes p = .var then ((if 0 < a.2.length then a.1 ++ [a.2] else a.1) ++ [[p]], []) else (a.1, a.2 ++ [p])
noncomputable def groupEnd (a : List (List Int) × List Int) : List (List Int) := if 0 < a.2.length then a.1 ++ [a.2] else a.1
noncomputable def groupsF (codes : List Code) : List (List Int) := groupEnd ((upto 0 codes.length).foldl (groupStep codes) ([], []))
noncomputable def labelStep (a : List Int × BS) (g : List Int) : List Int × BS :=
  if g.length = 1 then (a.1 ++ [g.headD 0], a.2) else (a.1 ++ [a.2.next], { a.2 with next := a.2.next + 1 })
noncomputable def labelsF (gs : List (List Int)) (s : BS) : List Int × BS := gs.foldl labelStep ([], s)
noncomputable def gswitchStep (codes : List Code) (s : BS) (q : List Int × Int) : BS :=
  if 1 < q.1.length then addRows (switchF codes q.1 (addRows s [.label q.2])).2 (switchF codes q.1 (addRows s [.label q.2])).1 else s
noncomputable def groupBlockF (ar : Int) (codes : List Code) : List Ins :=
  if codes.length < 2 then smallF codes
  else if ar = 0 ∨ allVar codes = true then chainBlockF ar codes
  else
    let gs := groupsF codes
    if gs.length = 1 then finishRows codes (addRows (switchF codes (gs.headD []) (initS ar codes)).2 (switchF codes (gs.headD []) (initS ar codes)).1)
    else
      let l := labelsF gs (initS ar codes)
      finishRows codes ((gs.zip l.1).foldl (gswitchStep codes) { l.2 with rows := chainRows ar l.1 })
/- sizes -/
structure Sized (s : BS) (n : Nat) : Prop where
  known : s.known.length ≤ n
  chains : s.chains.length ≤ n
  two : ∀ q ∈ s.chains, 2 ≤ q.2.length ∧ q.2.length ≤ 100
theorem Sized.mono {s : BS} {n m : Nat} (h : Sized s n) (k : n ≤ m) : Sized s m := ⟨Nat.le_trans h.known k, Nat.le_trans h.chains k, h.two⟩
theorem Sized.chain {s : BS} {n : Nat} (h : Sized s n) {ps : List Int} (hp : ps.length ≤ 100) : Sized (chainF s ps).2 (n + 1) := by
  have l := chainF_len s ps
  refine ⟨by have := h.known; lia, by have := h.chains; lia, ?_⟩
  unfold chainF
  split
  · exact h.two
  · exact h.two
  · rename_i h1 h2
    split
    · exact h.two
    · intro q hq
      rcases List.mem_append.mp hq with hq | hq
      · exact h.two q hq
      · rw [List.mem_singleton.mp hq]
        refine ⟨?_, hp⟩
        match ps, h1, h2 with
        | [], h1, _ => exact absurd rfl h1
        | [p], _, h2 => exact absurd rfl (h2 p)
        | _ :: _ :: _, _, _ => simp
theorem Sized.table {codes : List Code} {ps : List Int} {kd : String} (hp : ps.length ≤ 100) : ∀ (qs : List Int) (a : List (Key × Int) × List Key × BS) {n : Nat}, Sized a.2.2 n → Sized (qs.foldl (tableStep codes ps kd) a).2.2 (n + qs.length)
  | [], a, n, h => h
  | q :: qs, a, n, h => by
    have h1 : Sized (tableStep codes ps kd a q).2.2 (n + 1) := by
      unfold tableStep
      split
      · exact h.chain (Nat.le_trans (List.length_filter_le _ _) hp)
      · exact h.mono (Nat.le_succ _)
    have := Sized.table (kd := kd) (codes := codes) hp qs _ h1
    rw [List.foldl_cons]
    refine this.mono ?_
    rw [List.length_cons]; lia
theorem Sized.bump {s : BS} {n : Nat} {c : Bool} {d : Int} (h : Sized s n) : Sized (bump c d s).2 n := by
  unfold Mine.bump
  split
  · exact ⟨h.known, h.chains, h.two⟩
  · exact h
theorem Sized.rows {s : BS} {n : Nat} {r : List Ins} (h : Sized s n) : Sized (addRows s r) n := ⟨h.known, h.chains, h.two⟩
theorem Sized.switch {codes : List Code} {ps : List Int} {s : BS} {n : Nat} (h : Sized s n) (hp : ps.length ≤ 100) : Sized (switchF codes ps s).2 (n + 2 * ps.length + 3) := by
  have h1 := h.chain (ps := varPlaces codes ps) (Nat.le_trans (List.length_filter_le _ _) hp)
  have h2 := Sized.table (codes := codes) (ps := ps) (kd := "const") hp ps ([], [], (chainF s (varPlaces codes ps)).2) h1
  have h3 := Sized.table (codes := codes) (ps := ps) (kd := "struct") hp ps ([], [], (tableF codes ps "const" (chainF s (varPlaces codes ps)).2).2.2) h2
  have h4 := (Sized.bump (Sized.bump h3 (c := decide (0 < (tableF codes ps "const" (chainF s (varPlaces codes ps)).2).1.length)) (d := (chainF s (varPlaces codes ps)).1))
    (c := decide (0 < (tableF codes ps "struct" (tableF codes ps "const" (chainF s (varPlaces codes ps)).2).2.2).1.length)) (d := (chainF s (varPlaces codes ps)).1)).chain (ps := matchPlaces codes ps .list) (Nat.le_trans (List.length_filter_le _ _) hp)
  have h5 := h4.chain (ps := ps) hp
  refine Sized.mono (s := (switchF codes ps s).2) h5 (by lia)
theorem switchF_rows {codes : List Code} {ps : List Int} {s : BS} : (switchF codes ps s).1.length ≤ 5 ∧ (switchF codes ps s).2.rows = s.rows ∧ (switchF codes ps s).2.ar = s.ar := by
  refine ⟨?_, ?_⟩
  · unfold switchF
    simp only
    split <;> split <;> simp
  · have b : ∀ c d (s : BS), (bump c d s).2.rows = s.rows ∧ (bump c d s).2.ar = s.ar := fun c d s => by unfold bump; split <;> exact ⟨rfl, rfl⟩
    have t : ∀ kd (s : BS), (tableF codes ps kd s).2.2.rows = s.rows ∧ (tableF codes ps kd s).2.2.ar = s.ar := fun kd s => tableFold_same ps _
    unfold switchF
    simp only
    constructor
    · rw [(chainF_same _ _).1, (chainF_same _ _).1, (b _ _ _).1, (b _ _ _).1, (t _ _).1, (t _ _).1, (chainF_same _ _).1]
    · rw [(chainF_same _ _).2, (chainF_same _ _).2, (b _ _ _).2, (b _ _ _).2, (t _ _).2, (t _ _).2, (chainF_same _ _).2]
theorem inR_upto {codes : List Code} : InR codes (upto 0 codes.length) := by
  intro p hp
  simp only [upto, List.mem_map, List.mem_range] at hp
  obtain ⟨i, hi, rfl⟩ := hp
  lia
theorem upto_length {a b : Int} : (upto a b).length = (b - a).toNat := by simp [upto]
end SBd2
section SFw12
section
variable {c : Cx} {n : Nat} {loc : Loc} {σ : Hp}
theorem IsT_chain (O : c.Ok n) {l r1 r2 : PySem.Expr} {pos : Pos} {Q : Bool → Loc → Hp → Prop}
    (h : Ev c l loc σ fun x l₁ σ₁ => ∃ a, x = .d (.int a) ∧ Ev c r1 l₁ σ₁ fun y l₂ σ₂ => ∃ b, y = .d (.int b) ∧ if a ≤ b then Ev c r2 l₂ σ₂ fun z l₃ σ₃ => ∃ d, z = .d (.int d) ∧ Q (decide (b < d)) l₃ σ₃ else Q false l₂ σ₂)
    (hm : lastMarks [.LtE, .Lt] [r1, r2] = false := by with_unfolding_all rfl) : IsT c (.Compare l [.LtE, .Lt] [r1, r2] pos) loc σ Q := fun s f =>
  isTrue_chain (h.use f fun u x l₁ σ₁ h₁ tk₁ ru q f₁ S₁ => by
    obtain ⟨a, rfl, q⟩ := q
    obtain ⟨t1, rfl⟩ := prep_int ru
    refine test_link (q.use f₁ fun v y l₂ σ₂ h₂ tk₂ rv q₂ f₂ S₂ => ?_)
    obtain ⟨b, rfl, q₂⟩ := q₂
    obtain ⟨t2, rfl⟩ := prep_int rv
    refine P.le_int (wpAny_truthy_bool ?_)
    by_cases hab : a ≤ b
    · rw [if_pos hab] at q₂
      rw [decide_eq_true hab]
      refine test_last (q₂.use f₂ fun w z l₃ σ₃ h₃ tk₃ rw_ q₃ f₃ S₃ => ?_)
      obtain ⟨d, rfl, q₃⟩ := q₃
      obtain ⟨t3, rfl⟩ := prep_int rw_
      refine P.lt_int (wpAny_truthy_bool ?_)
      exact ⟨_, l₃, σ₃, h₃, tk₃, rfl, rfl, q₃, f₃, (S₁.trans S₂).trans S₃⟩
    · rw [if_neg hab] at q₂
      rw [decide_eq_false hab]
      exact ⟨_, l₂, σ₂, h₂, tk₂, rfl, rfl, q₂, f₂, S₁.trans S₂⟩) hm
theorem Op2_eqS_self (O : c.Ok n) {x : PyData} {Q} (hx : nice 20 x = true) (h : Q (.d (.bool true)) loc σ) : Op2 c (compareOp .Eq) PRep (.d x) (.d x) loc σ Q :=
  Op2_eq O hx hx fun b hb => by rw [hb.mpr rfl]; exact h
theorem Op2_eqS_ne (O : c.Ok n) {x y : PyData} {Q} (hx : nice 20 x = true) (hy : nice 20 y = true) (hne : x ≠ y) (h : Q (.d (.bool false)) loc σ) : Op2 c (compareOp .Eq) PRep (.d x) (.d y) loc σ Q :=
  Op2_eq O hx hy fun b hb => by
    cases b with
    | true => exact absurd (hb.mp rfl) hne
    | false => exact h
theorem Op2_inT_yes (O : c.Ok n) {x : PyData} {ys : List PyData} {Q} (hx : nice 20 x = true) (hy : ∀ d ∈ ys, nice 20 d = true) (hm : x ∈ ys) (h : Q (.d (.bool true)) loc σ) : Op2 c (compareOp .In) PRep (.d x) (.d (.tuple ys)) loc σ Q :=
  Op2_inT O hx hy fun b hb => by rw [hb.mpr hm]; exact h
theorem Op2_inT_no (O : c.Ok n) {x : PyData} {ys : List PyData} {Q} (hx : nice 20 x = true) (hy : ∀ d ∈ ys, nice 20 d = true) (hm : x ∉ ys) (h : Q (.d (.bool false)) loc σ) : Op2 c (compareOp .In) PRep (.d x) (.d (.tuple ys)) loc σ Q :=
  Op2_inT O hx hy fun b hb => by
    cases b with
    | true => exact absurd (hb.mp rfl) hm
    | false => exact h
theorem Op2_notinT_yes (O : c.Ok n) {x : PyData} {ys : List PyData} {Q} (hx : nice 20 x = true) (hy : ∀ d ∈ ys, nice 20 d = true) (hm : x ∈ ys) (h : Q (.d (.bool false)) loc σ) : Op2 c (compareOp .NotIn) PRep (.d x) (.d (.tuple ys)) loc σ Q :=
  Op2_notinT O hx hy fun b hb => by
    cases b with
    | true => exact absurd hm (hb.mp rfl)
    | false => exact h
end
noncomputable def Ins.name : Ins → String
  | .fail => "fail"
  | .label _ => "label"
  | .try_ _ _ => "try"
  | .retry _ => "retry"
  | .trust _ => "trust"
  | .sot _ _ _ _ => "switch_on_term"
  | .soc _ _ => "switch_on_constant"
  | .sos _ _ => "switch_on_structure"
  | .getc _ _ => "get_constant"
  | .proceed => "proceed"
noncomputable def Ins.args : Ins → List PyData
  | .fail => []
  | .label l => [.int l]
  | .try_ l ar => [.int l, .int ar]
  | .retry l => [.int l]
  | .trust l => [.int l]
  | .sot v c l s => [.int v, .int c, .int l, .int s]
  | .soc t d => [.tuple (t.map pairData), .int d]
  | .sos t d => [.tuple (t.map pairData), .int d]
  | .getc t p => [.tuple [.int t, .int p], .tuple [sv "x", .int 1]]
  | .proceed => []
theorem Ins.data (r : Ins) : r.toData = .tuple (sv r.name :: r.args) := by cases r <;> rfl
theorem nice_sv {s : String} (h : PyData.strOk (Str.ofString s) = true) : nice 20 (sv s) = true := by simp only [nice, sv]; exact h
theorem Ins.nice_name (r : Ins) : nice 20 (sv r.name) = true := by
  have h1 : nice 20 (sv "fail") = true := by decide +kernel
  have h2 : nice 20 (sv "label") = true := by decide +kernel
  have h3 : nice 20 (sv "try") = true := by decide +kernel
  have h4 : nice 20 (sv "retry") = true := by decide +kernel
  have h5 : nice 20 (sv "trust") = true := by decide +kernel
  have h6 : nice 20 (sv "switch_on_term") = true := by decide +kernel
  have h7 : nice 20 (sv "switch_on_constant") = true := by decide +kernel
  have h8 : nice 20 (sv "switch_on_structure") = true := by decide +kernel
  have h9 : nice 20 (sv "get_constant") = true := by decide +kernel
  have h10 : nice 20 (sv "proceed") = true := by decide +kernel
  cases r <;> assumption
/-- where a row leads -/
noncomputable def targetF (r : Ins) (k : Key) : Int :=
  match r with
  | .try_ l _ => l
  | .retry l => l
  | .trust l => l
  | .label l => l
  | .sot v c l s => match k with | .var => v | .const _ _ => c | .list => l | .struct _ => s
  | .soc t d => ((t.find? fun p => p.1 = k).map (·.2)).getD d
  | .sos t d => ((t.find? fun p => p.1 = k).map (·.2)).getD d
  | _ => 0
noncomputable def canTarget (r : Ins) (k : Key) : Bool :=
  match r with
  | .try_ _ _ => true
  | .retry _ => true
  | .trust _ => true
  | .sot _ _ _ _ => true
  | .soc t _ => k.kind == "const" && t.all fun p => p.1.kind == "const"
  | .sos t _ => k.kind == "struct" && t.all fun p => p.1.kind == "struct"
  | _ => false
end SFw12
section SVm
theorem Ex1_cut' {c : Cx} {st : Stmt} {loc : Loc} {σ : Hp} {Q} (P : Loc → Hp → Prop) (h : Ex1 c st loc σ fun fl l σ' => match fl with | .next => P l σ' | fl => Q fl l σ') (k : ∀ l σ', P l σ' → Q .next l σ') : Ex1 c st loc σ Q :=
  Tr.mono h fun fl l σ' p => by cases fl <;> first | exact k l σ' p | exact p
structure VS where
  at_ : Int
  left : List Int
  found : List (Int × Int)
noncomputable def labelOf (q : Ins × Nat) : Option (Int × Int) := match q.1 with | .label l => some (l, (q.2 : Int)) | _ => none
noncomputable def labelsOf (L : List Ins) : List (Int × Int) := L.zipIdx.filterMap labelOf
noncomputable def lookupW (wh : List (Int × Int)) (g : Int) : Option Int := (wh.find? fun q => q.1 = g).map (·.2)
noncomputable def effectF (r : Ins) (s : VS) (wide : Int) : Option (List Int) :=
  match r with
  | .try_ _ ar => if ar = wide then some (s.left ++ [s.at_ + 1]) else none
  | .retry _ => if s.left = [] then none else some (s.left.dropLast ++ [s.at_ + 1])
  | .trust _ => if s.left = [] then none else some s.left.dropLast
  | _ => some s.left
noncomputable def afterF (run : VS → Option (List (Int × Int))) (left : List Int) (found : List (Int × Int)) : Option (List (Int × Int)) :=
  match left.getLast? with
  | none => some found
  | some a => run ⟨a, left, found⟩
noncomputable def turnF (L : List Ins) (many wide : Int) (k : Key) (run : VS → Option (List (Int × Int))) (s : VS) : Option (List (Int × Int)) :=
  if s.at_ < 0 then none else
  match L[s.at_.toNat]? with
  | none => none
  | some (.label c) => if 0 ≤ c ∧ c < many then afterF run s.left (s.found ++ [(c, (s.left.length : Int))]) else run ⟨s.at_ + 1, s.left, s.found⟩
  | some r =>
    if canTarget r k then
      match effectF r s wide with
      | none => none
      | some lf => if 0 ≤ targetF r k then (match lookupW (labelsOf L) (targetF r k) with | some a => run ⟨a, lf, s.found⟩ | none => none) else afterF run lf s.found
    else none
noncomputable def runF (L : List Ins) (many wide : Int) (k : Key) : Nat → VS → Option (List (Int × Int))
  | 0, _ => none
  | n + 1, s => turnF L many wide k (runF L many wide k n) s
theorem turn_inv {L : List Ins} {many wide : Int} {k : Key} {run : VS → Option (List (Int × Int))} {s : VS} {out : List (Int × Int)} (h : turnF L many wide k run s = some out) :
    ∃ r, 0 ≤ s.at_ ∧ L[s.at_.toNat]? = some r ∧
      ((∃ c, r = .label c ∧ 0 ≤ c ∧ c < many ∧ afterF run s.left (s.found ++ [(c, (s.left.length : Int))]) = some out) ∨
       (∃ c, r = .label c ∧ ¬ (0 ≤ c ∧ c < many) ∧ run ⟨s.at_ + 1, s.left, s.found⟩ = some out) ∨
       (canTarget r k = true ∧ ∃ lf, effectF r s wide = some lf ∧ ((0 ≤ targetF r k ∧ ∃ a, lookupW (labelsOf L) (targetF r k) = some a ∧ run ⟨a, lf, s.found⟩ = some out) ∨ (targetF r k < 0 ∧ afterF run lf s.found = some out)))) := by
  unfold turnF at h
  split at h
  · cases h
  · rename_i h0
    split at h
    · cases h
    · rename_i c hc
      refine ⟨_, by lia, hc, ?_⟩
      split at h
      · rename_i h1; exact .inl ⟨c, rfl, h1.1, h1.2, h⟩
      · rename_i h1; exact .inr (.inl ⟨c, rfl, h1, h⟩)
    · rename_i r hc hr
      refine ⟨_, by lia, hr, .inr (.inr ?_)⟩
      split at h
      · rename_i hct
        refine ⟨hct, ?_⟩
        split at h
        · cases h
        · rename_i lf he
          refine ⟨lf, he, ?_⟩
          split at h
          · rename_i ht
            split at h
            · rename_i a ha
              exact .inl ⟨ht, a, ha, h⟩
            · cases h
          · rename_i ht; exact .inr ⟨by lia, h⟩
      · cases h
theorem after_inv {run : VS → Option (List (Int × Int))} {left : List Int} {found out : List (Int × Int)} (h : afterF run left found = some out) :
    (left = [] ∧ found = out) ∨ ∃ ls a, left = ls ++ [a] ∧ run ⟨a, left, found⟩ = some out := by
  unfold afterF at h
  split at h
  · rename_i e
    exact .inl ⟨List.getLast?_eq_none_iff.mp e, Option.some.inj h⟩
  · rename_i a e
    obtain ⟨ls, rfl⟩ := List.getLast?_eq_some_iff.mp e
    exact .inr ⟨ls, a, rfl, h⟩
end SVm
section SFw13
noncomputable abbrev cx' (c : Cx) (scope : Scope) (cl : List (Str × Addr)) (C : Addr) : Cx := ⟨c.toGx, c.A, fun a => a = C, compEnvC scope cl C c.env⟩
section
variable {c : Cx} {n : Nat} {loc : Loc} {σ : Hp}
theorem Cx.Ok.comp (O : c.Ok n) {scope : Scope} {cl : List (Str × Addr)} {C : Addr} (hkind : scope.kind = .function) (hcl : ∀ x a, cl.lookup x = some a → c.env.cells.lookup x = some a) (hC : c.base.objs.size ≤ C) : Cx.Ok (cx' c scope cl C) n :=
  { toOk := O.toOk
    toOkA := O.toOkA
    kind := hkind
    globals := O.globals
    builtins := O.builtins
    newL := hC
    FL := rfl
    isF := fun a e => .inl e
    inj := fun x y a h1 h2 => O.inj x y a (hcl x a h1) (hcl y a h2)
    newC := fun x a h => O.newC x a (hcl x a h) }
/-- the tests of a comprehension -/
noncomputable def IfsT (c : Cx) (ifs : List PySem.Expr) (loc : Loc) (σ : Hp) (Q : Bool → Loc → Hp → Prop) : Prop :=
  Tr c (forIn ifs true fun e r => if r = true then do let ok ← isTrue e c.env (eval e c.env); pure (ForInStep.yield ok) else pure (ForInStep.yield r)) (fun _ (a b : Bool) => a = b) loc σ Q
theorem IfsT_nil {Q} (h : Q true loc σ) : IfsT c [] loc σ Q := fun s f => wpAny_tests_nil (.same0 f rfl h)
theorem IfsT_one {e : PySem.Expr} {Q} (h : IsT c e loc σ Q) : IfsT c [e] loc σ Q := fun s f => wpAny_tests_one (h s f)
theorem iter_self {s : Shared} {x : PV} {xs : List PV} {I : Addr} {i : Nat} {Q : Value → Shared → Prop} {p : Program} {w : World} {A : Around} {E} (t : ItAt s.heap I xs x i) (h : Q (.ref I) s) : wpAny (model p w) A (pyIter (.ref I)) Q E s := by
  cases x with
  | r a => exact wpAny_pyIter_listiter (show s.heap.IsListIter I a i from t) h
  | rng a b => exact wpAny_pyIter_rangeiter (show IsRangeIter s.heap I _ _ _ from t) h
  | d d =>
    cases d <;> first | exact t.elim | skip
    obtain ⟨a, vs, hit, _⟩ := (show ∃ a vs, s.heap.IsTupleIter I a i ∧ IsTup s.heap a vs ∧ All2 (PRep s.heap) vs.toList xs from t)
    exact wpAny_pyIter_tupleiter hit h
theorem codeAny_compLoop_any {prog : Program} {w : World} {A : Around} {R : Result → Shared → Prop} {s : Shared} {elt target iter : PySem.Expr} {ifs : List PySem.Expr} {scope : Scope} {pos : Pos} {it acc : Value} {env : Env} (I : Nat → Shared → Prop)
    (turn : ∀ n s, I n s → wpAny (model prog w) A (pyNext it) (fun r s₁ => match r with
      | none => R (.ok .next) s₁
      | some v => wpAny (model prog w) A (letOwnedTupleGo target it v) (fun _ s₁' => wpAny (model prog w) A (assign target env v) (fun _ s₂ =>
          wpAny (model prog w) A (forIn ifs true fun c r => if r = true then do let ok ← isTrue c env (eval c env); pure (ForInStep.yield ok) else pure (ForInStep.yield r)) (fun ok s₃ =>
            if ok = true then wpAny (model prog w) A (eval elt env) (fun x s₄ =>
              wpAny (model prog w) A (call (.builtin "list.append") [acc, x]) (fun _ s₅ => ∃ m, m < n ∧ I m s₅) (notedBy (model prog w) A env fun e s' => R (.error e) s') s₄) (notedBy (model prog w) A env fun e s' => R (.error e) s') s₃
            else ∃ m, m < n ∧ I m s₃) (notedBy (model prog w) A env fun e s' => R (.error e) s') s₂) (notedBy (model prog w) A env fun e s' => R (.error e) s') s₁') (notedBy (model prog w) A env fun e s' => R (.error e) s') s₁)
      (notedBy (model prog w) A env fun e s' => R (.error e) s') s)
    (n : Nat) (h : I n s) : codeAny (model prog w) A (.compLoop (.ListComp elt [⟨target, iter, ifs, 0⟩] scope pos) 0 it acc env) R s := by
  refine codeAny_loop rfl I (fun n s hI => ?_) n h
  show wpAny _ A ((compTurn (.ListComp elt [⟨target, iter, ifs, 0⟩] scope pos) 0 it acc env).onRaise (fun x => do noteFrame x env; theTreesLotGoes x)) _ _ s
  refine wpAny_noted ?_
  rw [compTurn_list]
  refine wpAny_bind (wpAny_standAt (wpAny_bind (wpAny_mono (turn n s hI) (fun r s₁ h₁ => ?_) fun _ _ h' => h')))
  cases r with
  | none => exact wpAny_pure h₁
  | some v =>
    refine wpAny_bind (wpAny_mono h₁ (fun _ s₁' h₁' => ?_) fun _ _ h' => h')
    refine wpAny_bind (wpAny_mono h₁' (fun _ s₂ h₂ => wpAny_bind (wpAny_mono h₂ (fun ok s₃ h₃ => ?_) fun _ _ h' => h')) fun _ _ h' => h')
    cases ok with
    | false => exact wpAny_pure ⟨rfl, h₃⟩
    | true =>
      exact wpAny_bind (wpAny_bind (wpAny_mono h₃ (fun x s₄ h₄ => wpAny_bind (wpAny_mono h₄ (fun _ s₅ h₅ => wpAny_pure (wpAny_pure ⟨rfl, h₅⟩)) fun _ _ h' => h')) fun _ _ h' => h'))
theorem HRel.extBut {p : Program} {w : World} {base h h' : Heap} {I : Addr} (R : HRel p w base σ h) (hI : base.objs.size ≤ I) (hσ : σ I = none) (tk : TupKeep h h') (k : Heap.ExtBut I h h') (hs : base.objs.size ≤ h'.objs.size) : HRel p w base σ h' :=
  ⟨fun b ob e => k b ob (fun z => by
      have h1 := Heap.lt_size e; rw [z] at h1; exact absurd hI (Nat.not_le.mpr h1)) (R.keep b ob e),
    fun a mo e => (R.rep a mo e).tk tk fun x e' => k a x (fun z => by rw [z, hσ] at e; cases e) e', R.new, hs⟩
/-- what stands at the end of a comprehension's loop -/
structure CompEnd (c : Cx) (l₁ : Loc) (σ₁ : Hp) (s : Shared) (C : Addr) (P : Hp → Prop) (s' : Shared) : Prop where
  ex : ∃ σ' h' tk' m, s' = { s with heap := h', toks := tk' } ∧ P σ' ∧ FRel c l₁ σ' h' ∧ Step c.F σ₁ s.heap σ' h' ∧ Out c σ' C ∧ h'.Ns C m ∧ s.heap.get? C = none
theorem comp_core (O : c.Ok n) {elt target iter : PySem.Expr} {ifs : List PySem.Expr} {scope : Scope} {pos : Pos} {cl : List (Str × Addr)} {lc : Loc} {x : PV} {P : Addr → Hp → Prop} {RR : Value → Addr → Result → Shared → Prop}
    (hcell : ∀ y ∈ scope.names, y.2 ≠ .cell) (hkind : scope.kind = .function) (hcl : ∀ x a, cl.lookup x = some a → c.env.cells.lookup x = some a)
    (hlc : ∀ x pv, lkp x lc = some pv → lkp x loc = some pv ∧ (c.env.kindOf x = some .cell ∨ c.env.kindOf x = some .free) ∧ (cl.lookup x).isSome = true ∧ (relabel scope c.env).names.lookup x ≠ some .local)
    {xs : List PV} (hx : ItemsAre σ x xs) (h : ∀ D, σ D = none → ∃ (J : Nat → Hp → Prop), J 0 (setH σ D (.list [])) ∧ (∀ i σ', J i σ' → ItemsAre σ' x xs) ∧
      (∀ i σ' pv C, xs[i]? = some pv → J i σ' → Cx.Ok (cx' c scope cl C) n → Tg (cx' c scope cl C) target pv lc σ' fun l₂ σ₂ => IfsT (cx' c scope cl C) ifs l₂ σ₂ fun ok l₃ σ₃ =>
        if ok then Ev (cx' c scope cl C) elt l₃ σ₃ fun y l₄ σ₄ => LocLe lc l₄ ∧ ∃ ys, σ₄ D = some (.list ys) ∧ ys.length ≤ 1000000 ∧ J (i + 1) (setH σ₄ D (.list (ys ++ [y]))) else LocLe lc l₃ ∧ J (i + 1) σ₃) ∧
      (∀ σ', J xs.length σ' → P D σ'))
    {s : Shared} {u : Value} (f : FRel c loc σ s.heap) (r : PRep s.heap u x)
    (hRR : ∀ D C s', CompEnd c loc σ s C (P D) s' → RR (.ref D) C (.ok .next) s') :
    wpAny (model c.prog c.w) c.A (pyIter u) (fun it s₂ => wpAny (model c.prog c.w) c.A (newList []) (fun acc s₃ => wpAny (model c.prog c.w) c.A (newFunctionEnv scope c.env.globals cl [] c.env.qual none .none (some c.env)) (fun cenv s₄ =>
      codeAny (model c.prog c.w) c.A (.compStart (.ListComp elt [⟨target, iter, ifs, 0⟩] scope pos) 0 it acc { cenv with scope := relabel scope c.env }) (RR acc cenv.locals) s₄) NoE s₃) NoE s₂) NoE s := by
  refine iter_start O f r hx fun I h₁ hI k₁ it₁ => ?_
  have f₁ := f.keeps O k₁
  refine wpAny_newObj_type (wpAny_newFunctionEnv hcell (by intro y hy; simp at hy) (fun h₃ hns₃ hsb₃ => ?_) hkind) (by size_fits)
  dsimp only at hns₃ hsb₃ ⊢
  generalize hH2 : h₁.push { cls := .type "list", dict := none, data := .seq ([] : List Value).toArray } = h₂ at hns₃ hsb₃ ⊢
  generalize hC : h₂.objs.size = C at hns₃ hsb₃ ⊢
  generalize hD : h₁.objs.size = D
  have hs2 : h₂.objs.size = h₁.objs.size + 1 := by rw [← hH2, Heap.size_push]
  have k₂ : ∀ b o, h₁.get? b = some o → h₂.get? b = some o := fun b o e => by rw [← hH2]; exact Heap.get?_push_of_some _ e
  have lD : h₂.get? D = some { cls := .type "list", data := .seq ([] : List Value).toArray } := by rw [← hH2, ← hD]; exact Heap.get?_push_size _ rfl
  have nD₁ : h₁.get? D = none := get_size_none _ (Nat.le_of_eq hD)
  have f₂ : FRel c loc (setH σ D (.list [])) h₂ := f₁.alloc O (Nat.le_of_eq hD) k₂ ⟨[], 0, lD, .nil⟩
  have sD : σ D = none := f₁.H.fresh nD₁
  have hsb : ∀ b o, b ≠ C → h₂.get? b = some o → h₃.get? b = some o := fun b o hb e => hsb₃.extBut b o hb (Heap.get?_push_of_some _ e)
  have nC₂ : h₂.get? C = none := get_size_none _ (Nat.le_of_eq hC)
  have k₃ : ∀ b o, h₂.get? b = some o → h₃.get? b = some o := fun b o e => hsb b o (fun z => by rw [z, nC₂] at e; cases e) e
  have f₃ : FRel c loc (setH σ D (.list [])) h₃ := f₂.keeps O k₃
  have hCb : c.base.objs.size ≤ C := by rw [← hC]; exact f₂.H.size
  have O' := O.comp (scope := scope) hkind hcl hCb
  have sC : ∀ {a mo}, setH σ D (.list []) a = some mo → a ≠ C := fun {a mo} e z => by
    obtain ⟨ob, e2, _⟩ := (f₂.H.rep a mo e).here
    rw [z, nC₂] at e2; cases e2
  have sC' : setH σ D (.list []) C = none := f₂.H.fresh nC₂
  have oC : Out c (setH σ D (.list [])) C := f₂.out O (Nat.le_of_eq hC)
  have f' : FRel (cx' c scope cl C) lc (setH σ D (.list [])) h₃ := by
    refine ⟨f₃.H, ⟨_, hns₃, fun y pv e kd => absurd kd (hlc y pv e).2.2.2⟩, fun y pv e kd => ?_, fun y a e => ?_, fun a fa => by obtain rfl : a = C := fa; exact sC'⟩
    · obtain ⟨e1, kk, hs, _⟩ := hlc y pv e
      obtain ⟨a, v, e2, ic, rr⟩ := f₃.cells y pv e1 kk
      obtain ⟨a', e3⟩ := Option.isSome_iff_exists.mp hs
      have := hcl y a' e3
      rw [e2] at this; cases this
      exact ⟨a, v, e3, ic, rr⟩
    · exact f₃.cellsAt y a (hcl y a e)
  have it₃ : ItAt h₃ I xs x 0 := it₁.keep (fun o e => k₃ _ _ (k₂ _ _ e)) (.of_keep fun b o e => k₃ b o (k₂ b o e))
  obtain ⟨ob, _, _, eI, _⟩ := it₁.here
  have hIC : I ≠ C := fun z => by have := k₂ _ _ eI; rw [z, nC₂] at this; cases this
  have hID : I ≠ D := fun z => by rw [z, nD₁] at eI; cases eI
  have oI : Out (cx' c scope cl C) (setH σ D (.list [])) I := by
    have o := f.out O hI
    exact ⟨o.new, by rw [setH_ne hID]; exact o.s, hIC, hIC, fun y a e => o.cs y a (hcl y a e)⟩
  have hI0 : s.heap.get? I = none := get_size_none _ hI
  have hC0 : s.heap.get? C = none := by
    cases q : s.heap.get? C with
    | none => rfl
    | some o => have := k₂ _ _ (k₁ _ _ q); rw [nC₂] at this; cases this
  have hD00 : s.heap.get? D = none := by
    cases q : s.heap.get? D with
    | none => rfl
    | some o => have := k₁ _ _ q; rw [nD₁] at this; cases this
  obtain ⟨J, h0, hJ, turn, hend⟩ := h D sD
  have S₀ : Step (fun a => a = C) σ s.heap (setH σ D (.list [])) h₃ := by
    refine ⟨fun a o e _ _ => k₃ _ _ (k₂ _ _ (k₁ _ _ e)), fun a mo e n1 => ?_, fun a z => by obtain rfl : a = C := z; exact sC'⟩
    by_cases hz : a = D
    · rw [hz]; exact hD00
    · rw [setH_ne hz, n1] at e; cases e
  have fin : ∀ σ' h' tk', J xs.length σ' → FRel (cx' c scope cl C) lc σ' h' → Step (fun a => a = C) σ s.heap σ' h' → (∃ m, h'.Ns C m) →
      CompEnd c loc σ s C (P D) { s with heap := h', toks := tk' } := by
    rintro σ' h' tk' hj ff S ⟨m, hm⟩
    have S' : Step NoF σ s.heap σ' h' := ⟨fun a o e n1 _ => S.keep a o e n1 (fun z => by have z : a = C := z; rw [z, hC0] at e; cases e), S.new, fun _ z => z.elim⟩
    obtain ⟨g1, g2⟩ := f.called O ff.H S'
    exact ⟨σ', h', tk', m, rfl, hend σ' hj, g1, g2, ⟨oC.new, S.off C rfl, oC.f, oC.l, oC.cs⟩, hm, hC0⟩
  have loop : ∀ s₃ : Shared, s₃ = { s with heap := h₃, toks := s.toks + ([] : List (Str × Value)).length } →
      codeAny (model c.prog c.w) c.A (.compLoop (.ListComp elt [⟨target, iter, ifs, 0⟩] scope pos) 0 (.ref I) (.ref D) (compEnvC scope cl C c.env)) (RR (.ref D) C) s₃ := by
    rintro s₃ rfl
    refine codeAny_compLoop_any
      (fun k s' => ∃ i σ' h' tk', s' = { s with heap := h', toks := tk' } ∧ i ≤ xs.length ∧ k = xs.length - i ∧ J i σ' ∧ FRel (cx' c scope cl C) lc σ' h' ∧ Step (fun a => a = C) σ s.heap σ' h' ∧ Out (cx' c scope cl C) σ' I ∧ ItAt h' I xs x i ∧ ∃ m, h'.Ns C m) ?_ xs.length
      ⟨0, _, h₃, _, rfl, Nat.zero_le _, rfl, h0, f', S₀, oI, it₃, _, hns₃⟩
    rintro k s' ⟨i, σ', h', tk', rfl, hi, rfl, hj, ff, S, o', t', m, hm⟩
    have hm0 : ∀ {h'' : Heap}, (∀ o, h'.get? C = some o → h''.get? C = some o) → ∃ m, h''.Ns C m := fun e => ⟨m, hm.at' e⟩
    refine wpAny_mono (Q := fun r s₁ => match r with
        | none => xs[i]? = none ∧ ∃ h₁, s₁ = { s with heap := h₁, toks := tk' } ∧ Heap.ExtBut I h' h₁
        | some v => ∃ pv h₁ tk₁, s₁ = { s with heap := h₁, toks := tk₁ } ∧ xs[i]? = some pv ∧ PRep h₁ v pv ∧ ItAt h₁ I xs x (i + 1) ∧ Heap.ExtBut I h' h₁) (E := NoE)
      (iter_next O' (s := { s with heap := h', toks := tk' }) ff o' (hJ _ _ hj) t' (fun pv v h₁ tk₁ hx rv t₁ k₁ => ⟨pv, h₁, tk₁, rfl, hx, rv, t₁, k₁⟩) (fun h₁ hx k₁ => ⟨hx, h₁, rfl, k₁⟩)) (fun r s₁ q => ?_) fun _ _ z => z.elim
    cases r with
    | none =>
      obtain ⟨hx', h₅, rfl, k₅⟩ := q
      have hil : i = xs.length := by
        rw [List.getElem?_eq_none_iff] at hx'; lia
      subst hil
      exact hRR D C _ (fin σ' h₅ tk' hj (ff.extBut O' o' (t'.tk k₅) k₅) (S.ext hI0 k₅) (hm0 fun o e => k₅ _ _ (Ne.symm hIC) e))
    | some v =>
      obtain ⟨pv, h₅, tk₅, rfl, hx', rv, t₅, k₅⟩ := q
      have hlt : i < xs.length := (List.getElem?_eq_some_iff.mp hx').1
      have f₅ := ff.extBut O' o' (t'.tk k₅) k₅
      have S₅ := S.ext hI0 k₅
      refine t₅.go (s := { s with heap := h₅, toks := tk₅ }) ?_
      refine wpAny_mono (turn i σ' pv C hx' hj O' { s with heap := h₅, toks := tk₅ } v f₅ rv) (fun _ s₂ p => ?_) fun _ _ z => z.elim
      obtain ⟨_, l₆, σ₆, h₆, tk₆, rfl, _, q₆, f₆, S₆⟩ := p
      have go : ∀ l σ₉ h₉ tk₉, LocLe lc l → J (i + 1) σ₉ → FRel (cx' c scope cl C) l σ₉ h₉ → Step (fun a => a = C) σ' h₅ σ₉ h₉ → ∃ m, m < xs.length - i ∧ ∃ i σ' h' tk', ({ s with heap := h₉, toks := tk₉ } : Shared) = { s with heap := h', toks := tk' } ∧ i ≤ xs.length ∧ m = xs.length - i ∧ J i σ' ∧
          FRel (cx' c scope cl C) lc σ' h' ∧ Step (fun a => a = C) σ s.heap σ' h' ∧ Out (cx' c scope cl C) σ' I ∧ ItAt h' I xs x i ∧ ∃ m, h'.Ns C m := fun l σ₉ h₉ tk₉ hl hj' f₉ S₉ => by
        obtain ⟨ob, _, _, e₁, _⟩ := t₅.here
        obtain ⟨m9, hm9, _⟩ := f₉.ns
        exact ⟨xs.length - (i + 1), by lia, i + 1, σ₉, h₉, tk₉, rfl, hlt, rfl, hj', f₉.le hl (Le.refl _), S₅.trans S₉, o'.mono e₁ S₉, t₅.keep (fun o e => S₉.keep I o e o'.s o'.f) (f₅.tk O' S₉), m9, hm9⟩
      refine wpAny_mono (q₆ { s with heap := h₆, toks := tk₆ } f₆) (fun ok s₃ p => ?_) fun _ _ z => z.elim
      obtain ⟨b, l₇, σ₇, h₇, tk₇, rfl, rfl, q₇, f₇, S₇⟩ := p
      cases ok with
      | false =>
        simp only [Bool.false_eq_true, if_false] at q₇ ⊢
        exact go l₇ σ₇ h₇ tk₇ q₇.1 q₇.2 f₇ (S₆.trans S₇)
      | true =>
        simp only [if_true] at q₇ ⊢
        refine wpAny_mono (q₇ { s with heap := h₇, toks := tk₇ } f₇) (fun y s₄ p => ?_) fun _ _ z => z.elim
        obtain ⟨py, l₈, σ₈, h₈, tk₈, rfl, ry, ⟨hl8, ys, hys, hyz, hj8⟩, f₈, S₈⟩ := p
        have ap := Fn_append (g := c.toGx) (n := n) (Q := fun r σ' => r = .d .none ∧ σ' = setH σ₈ D (.list (ys ++ [py]))) hys hyz ⟨rfl, rfl⟩
        refine wpAny_mono (ap c.A { s with heap := h₈, toks := tk₈ } [.ref D, y] O.toOkA f₈.H (.cons (mk_ref _ _) (.cons ry .nil))) (fun v s₅ p => ?_) fun _ _ z => z.elim
        obtain ⟨pv9, σ₉, h₉, tk₉, rfl, _, ⟨_, rfl⟩, R₉, S₉⟩ := p
        obtain ⟨f₉, S₉'⟩ := f₈.called O' R₉ S₉
        exact go l₈ _ h₉ tk₉ hl8 hj8 f₉ (((S₆.trans S₇).trans S₈).trans S₉')
  exact codeAny_compStart_list (loop _ rfl) (iter_self it₃ (loop _ rfl))
theorem Ev_ListComp (O : c.Ok n) {elt target iter : PySem.Expr} {ifs : List PySem.Expr} {scope : Scope} {pos : Pos} {cl : List (Str × Addr)} {lc : Loc} {Q}
    (hclos : closureFor scope c.env = pure cl) (hcell : ∀ y ∈ scope.names, y.2 ≠ .cell) (hkind : scope.kind = .function) (hnames : ∀ y ∈ scope.names, y.2 = .local → scope.names.lookup y.1 = some .local)
    (hcl : ∀ x a, cl.lookup x = some a → c.env.cells.lookup x = some a)
    (h : Ev c iter loc σ fun x l₁ σ₁ => (∀ x pv, lkp x lc = some pv → lkp x l₁ = some pv ∧ (c.env.kindOf x = some .cell ∨ c.env.kindOf x = some .free) ∧ (cl.lookup x).isSome = true ∧ (relabel scope c.env).names.lookup x ≠ some .local) ∧
      ∃ xs, ItemsAre σ₁ x xs ∧ ∀ D, σ₁ D = none → ∃ (J : Nat → Hp → Prop), J 0 (setH σ₁ D (.list [])) ∧ (∀ i σ', J i σ' → ItemsAre σ' x xs) ∧
      (∀ i σ' pv C, xs[i]? = some pv → J i σ' → Cx.Ok (cx' c scope cl C) n → Tg (cx' c scope cl C) target pv lc σ' fun l₂ σ₂ => IfsT (cx' c scope cl C) ifs l₂ σ₂ fun ok l₃ σ₃ =>
        if ok then Ev (cx' c scope cl C) elt l₃ σ₃ fun y l₄ σ₄ => LocLe lc l₄ ∧ ∃ ys, σ₄ D = some (.list ys) ∧ ys.length ≤ 1000000 ∧ J (i + 1) (setH σ₄ D (.list (ys ++ [y]))) else LocLe lc l₃ ∧ J (i + 1) σ₃) ∧
      (∀ σ', J xs.length σ' → Q (.r D) l₁ σ'))
    (hs : ∀ x, foldedSetIterable iter c.env x = pure x := by intro _; rfl) : Ev c (.ListComp elt [⟨target, iter, ifs, 0⟩] scope pos) loc σ Q := fun s f => by
  rw [eval_ListComp]
  refine wpAny_comprehension_free (use := none) rfl hs hclos hkind hnames (h.use f fun u x l₁ σ₁ h₁ tk₁ r q f₁ S₁ => ?_)
  obtain ⟨hlc, xs, hx, q⟩ := q
  refine comp_core O (P := fun D σ' => Q (.r D) l₁ σ') (RR := fun acc C => compPost (model c.prog c.w) c.A NoE none (Post c PRep Q σ s) acc C) hcell hkind hcl hlc hx (fun D hD => ?_) (s := { s with heap := h₁, toks := tk₁ }) f₁ r (fun D C s' he => ?_)
  · obtain ⟨J, a, b, d, e⟩ := q D hD
    exact ⟨J, a, b, d, e⟩
  · obtain ⟨σ', h', tk', m, rfl, hp, g1, g2, oC, hm, hC0⟩ := he.ex
    refine ⟨m, hm, fun h'' hs'' => ?_⟩
    have tk : TupKeep h' h'' := fun b o e im => by
      by_cases hb : b = C
      · obtain ⟨o', es, ep, e2, d2, _⟩ := hm
        rw [hb, e2] at e
        cases e
        rcases im with ⟨_, _, _, d⟩ | ⟨_, _, d⟩ <;> (rw [d] at d2; cases d2)
      · exact hs''.extBut b o hb e
    exact ⟨.r D, l₁, σ', h'', tk', rfl, mk_ref _ _, hp, g1.extBut O oC tk hs''.extBut, S₁.trans (g2.ext hC0 hs''.extBut)⟩
theorem Ex1_AssignComp (O : c.Ok n) {y : Str} {py pos' : Pos} {elt target iter : PySem.Expr} {ifs : List PySem.Expr} {scope : Scope} {pos : Pos} {cl : List (Str × Addr)} {lc : Loc} {Q}
    (hclos : closureFor scope c.env = pure cl) (hcell : ∀ y ∈ scope.names, y.2 ≠ .cell) (hkind : scope.kind = .function) (hnames : ∀ y ∈ scope.names, y.2 = .local → scope.names.lookup y.1 = some .local)
    (hcl : ∀ x a, cl.lookup x = some a → c.env.cells.lookup x = some a) (hy : c.env.kindOf y = some .local)
    (hsw : swapsWith (.ListComp elt [⟨target, iter, ifs, 0⟩] scope pos) (some (.Name y py)) pos'.line c.env = pure true)
    (h : Ev c iter loc σ fun x l₁ σ₁ => (∀ x pv, lkp x lc = some pv → lkp x l₁ = some pv ∧ (c.env.kindOf x = some .cell ∨ c.env.kindOf x = some .free) ∧ (cl.lookup x).isSome = true ∧ (relabel scope c.env).names.lookup x ≠ some .local) ∧
      ∃ xs, ItemsAre σ₁ x xs ∧ ∀ D, σ₁ D = none → ∃ (J : Nat → Hp → Prop), J 0 (setH σ₁ D (.list [])) ∧ (∀ i σ', J i σ' → ItemsAre σ' x xs) ∧
      (∀ i σ' pv C, xs[i]? = some pv → J i σ' → Cx.Ok (cx' c scope cl C) n → Tg (cx' c scope cl C) target pv lc σ' fun l₂ σ₂ => IfsT (cx' c scope cl C) ifs l₂ σ₂ fun ok l₃ σ₃ =>
        if ok then Ev (cx' c scope cl C) elt l₃ σ₃ fun y l₄ σ₄ => LocLe lc l₄ ∧ ∃ ys, σ₄ D = some (.list ys) ∧ ys.length ≤ 1000000 ∧ J (i + 1) (setH σ₄ D (.list (ys ++ [y]))) else LocLe lc l₃ ∧ J (i + 1) σ₃) ∧
      (∀ σ', J xs.length σ' → Q .next (setL y (.r D) l₁) σ'))
    (hs : ∀ x, foldedSetIterable iter c.env x = pure x := by intro _; rfl) : Ex1 c (.Assign [.Name y py] (.ListComp elt [⟨target, iter, ifs, 0⟩] scope pos) pos') loc σ Q := fun s f => by
  rw [exec_Assign_Name_used _ _ _ _ hsw]
  refine wpAny_bind (wpAny_standAt (wpAny_bind ?_))
  show wpAny _ c.A (do let _ ← comprehension (.ListComp elt [⟨target, iter, ifs, 0⟩] scope pos) scope c.env _ (newList []) false (eval iter c.env) (some (assign (.Name y py) c.env))) _ _ s
  refine wpAny_bind (wpAny_mono (wpAny_comprehension_free (use := some (assign (.Name y py) c.env)) (Q := fun _ s' => Post c FlRep Q σ s .next s') rfl hs hclos hkind hnames
    (h.use f fun u x l₁ σ₁ h₁ tk₁ r q f₁ S₁ => ?_)) (fun _ s' hq => wpAny_pure (wpAny_pure hq)) fun _ _ e => e)
  obtain ⟨hlc, xs, hx, q⟩ := q
  refine comp_core O (P := fun D σ' => Q .next (setL y (.r D) l₁) σ') (RR := fun acc C => compPost (model c.prog c.w) c.A NoE (some (assign (.Name y py) c.env)) (fun _ s' => Post c FlRep Q σ s .next s') acc C) hcell hkind hcl hlc hx (fun D hD => ?_)
    (s := { s with heap := h₁, toks := tk₁ }) f₁ r (fun D C s' he => ?_)
  · obtain ⟨J, a, b, d, e⟩ := q D hD
    exact ⟨J, a, b, d, e⟩
  · obtain ⟨σ', h', tk', m, rfl, hp, g1, g2, oC, hm, hC0⟩ := he.ex
    show wpAny _ c.A (assign (.Name y py) c.env (.ref D)) _ _ _
    refine wpAny_assign_Name (store_local (R := FlRep) O (s := { s with heap := h', toks := tk' }) g1 hy (mk_ref _ _) fun h₅ tk₅ g5 S5 => ?_)
    have hm5 : h₅.Ns C m := hm.at' fun o e => S5.keep C o e oC.s oC.f
    refine ⟨m, hm5, fun h'' hs'' => ?_⟩
    have tk : TupKeep h₅ h'' := fun b o e im => by
      by_cases hb : b = C
      · obtain ⟨o', es, ep, e2, d2, _⟩ := hm5
        rw [hb, e2] at e
        cases e
        rcases im with ⟨_, _, _, d⟩ | ⟨_, _, d⟩ <;> (rw [d] at d2; cases d2)
      · exact hs''.extBut b o hb e
    exact ⟨.next, _, σ', h'', tk₅, rfl, trivial, hp, g5.extBut O oC tk hs''.extBut, S₁.trans ((g2.trans S5).ext hC0 hs''.extBut)⟩
end
end SFw13
section SFw14
section
variable {c : Cx} {n : Nat} {loc : Loc} {σ : Hp}
theorem Op2_eqLen (O : c.Ok n) {a b : Addr} {xs ys : List PV} {Q} (ha : σ a = some (.list xs)) (hb : σ b = some (.list ys)) (hne : xs.length ≠ ys.length) (h : Q (.d (.bool false)) loc σ) :
    Op2 c (compareOp .Eq) PRep (.r a) (.r b) loc σ Q := fun s u v f ru rv => by
  obtain rfl : u = .ref a := ru
  obtain rfl : v = .ref b := rv
  obtain ⟨vs, k, hl, r⟩ := f.H.rep a _ ha
  obtain ⟨ws, k', hl', r'⟩ := f.H.rep b _ hb
  refine SeqAt.eq_list_lengthsAt hl.isList hl'.isList ?_ (by have := O.units; lia) (.same0 f (mk_bool _ _) h)
  rw [List.size_toArray, List.size_toArray, r.length, r'.length]
  simpa using hne
theorem Op2_addL (O : c.Ok n) {a b : Addr} {xs ys : List PV} {Q} (ha : σ a = some (.list xs)) (hb : σ b = some (.list ys)) (hz : xs.length + ys.length ≤ 1000000) (h : ∀ d, σ d = none → Q (.r d) loc (setH σ d (.list (xs ++ ys)))) :
    Op2 c (binaryOp .Add) PRep (.r a) (.r b) loc σ Q := fun s u v f ru rv => by
  obtain rfl : u = .ref a := ru
  obtain rfl : v = .ref b := rv
  obtain ⟨vs, k, hl, r⟩ := f.H.rep a _ ha
  obtain ⟨ws, k', hl', r'⟩ := f.H.rep b _ hb
  have e : vs.toArray ++ ws.toArray = (vs ++ ws).toArray := by simp
  refine concat_meets ⟨_, hl, rfl⟩ ⟨_, hl', rfl⟩ noFill_list_add seq_list_add PySem.F.slot_list_add PySem.F.entry_list_add (PySem.F.args_list_add_2 _ _) (list_addW a b vs.toArray ws.toArray k k' none none #[] #[] ?_) ⟨hl, hl', ?_⟩
  · rw [List.size_toArray, List.size_toArray, r.length, r'.length, sizeLine_eq]; lia
  rw [e]
  have kk : ∀ b o, s.heap.get? b = some o → (s.heap.push { cls := .type "list", data := .seq (vs ++ ws).toArray }).get? b = some o := fun b o e => Heap.get?_push_of_some _ e
  refine ⟨.r s.heap.objs.size, loc, _, _, s.toks, rfl, mk_ref _ _, h s.heap.objs.size (f.H.fresh (get_size_none _ (Nat.le_refl _))), f.alloc O (Nat.le_refl _) kk ?_, .alloc f.offF (f.notF O (Nat.le_refl _)) (get_size_none _ (Nat.le_refl _)) kk⟩
  exact ⟨vs ++ ws, 0, PySem.IsL.new _ _, (all2_tk (TupKeep.of_keep kk) r).append (all2_tk (TupKeep.of_keep kk) r')⟩
theorem readsAll_lists {h : Heap} {σ : Hp} {p : Program} {w : World} {base : Heap} (R : HRel p w base σ h) : ∀ {us : List Value} {as : List Addr} {xss : List (List PyData)}, All2 (PRep h) us (as.map .r) → All2 (fun a xs => σ a = some (.list (xs.map .d))) as xss →
    ReadsAll h us (xss.map .list) as
  | _, [], _, r, q => by cases q; cases r; exact .nil
  | _, a :: as, _, r, q => by
    cases q with
    | cons q1 q2 =>
      cases r with
      | cons r1 r2 =>
        obtain rfl := r1
        obtain ⟨vs, k, hl, rr⟩ := R.rep a _ q1
        exact ReadsAll.cons (as := [a]) (bs := as) (.list hl rfl rfl (by simpa using readsAll_of rr)) (readsAll_lists R r2 q2)
theorem eqvAll_lists : ∀ {xss yss : List (List PyData)}, (∀ xs ∈ xss, ∀ d ∈ xs, nice 20 d = true) → (∀ xs ∈ yss, ∀ d ∈ xs, nice 20 d = true) → (PyData.eqvAll (xss.map .list) (yss.map .list) = true ↔ xss = yss)
  | [], [], _, _ => by simp [PyData.eqvAll]
  | [], _ :: _, _, _ => by simp [PyData.eqvAll]
  | _ :: _, [], _, _ => by simp [PyData.eqvAll]
  | xs :: xss, ys :: yss, hx, hy => by
    have h1 := nice_eqvAll (hx xs (.head _)) (hy ys (.head _))
    have h2 := eqvAll_lists (fun z hz => hx z (.tail _ hz)) (fun z hz => hy z (.tail _ hz))
    simp only [List.map_cons, PyData.eqvAll, PyData.eqv, Bool.and_eq_true, h1, h2, List.cons.injEq]
theorem shapedLL {xss : List (List PyData)} (h : ∀ xs ∈ xss, ∀ d ∈ xs, nice 20 d = true) : SeqAt.shaped (.list (xss.map .list)) = true := by
  have : PyData.canLayAll0 (xss.map .list) = true ∧ PyData.depthAll (xss.map .list) ≤ 21 := by
    induction xss with
    | nil => simp [PyData.canLayAll0, PyData.depthAll]
    | cons xs xss ih =>
      have h1 := nice_layAll (h xs (.head _))
      have h2 := ih fun z hz => h z (.tail _ hz)
      simp only [List.map_cons, PyData.canLayAll0, PyData.canLay0, PyData.depthAll, PyData.depth, h1.1, h2.1, Bool.and_self, true_and]
      have a1 := h1.2
      have a2 := h2.2
      lia
  unfold SeqAt.shaped
  simp only [PyData.canLay0, PyData.depth]
  rw [this.1, Bool.true_and]; exact decide_eq_true (by have := this.2; lia)
theorem Op2_eqLL (O : c.Ok n) {a b : Addr} {as bs : List Addr} {xss yss : List (List PyData)} {Q} (ha : σ a = some (.list (as.map .r))) (hb : σ b = some (.list (bs.map .r))) (hA : All2 (fun a xs => σ a = some (.list (xs.map .d))) as xss)
    (hB : All2 (fun a xs => σ a = some (.list (xs.map .d))) bs yss) (hx : ∀ xs ∈ xss, ∀ d ∈ xs, nice 20 d = true) (hy : ∀ xs ∈ yss, ∀ d ∈ xs, nice 20 d = true)
    (h : ∀ b, (b = true ↔ xss = yss) → Q (.d (.bool b)) loc σ) : Op2 c (compareOp .Eq) PRep (.r a) (.r b) loc σ Q := fun s u v f ru rv => by
  obtain rfl : u = .ref a := ru
  obtain rfl : v = .ref b := rv
  obtain ⟨vs, k, hl, r⟩ := f.H.rep a _ ha
  obtain ⟨ws, k', hl', r'⟩ := f.H.rep b _ hb
  have ra : Reads s.heap (.ref a) (.list (xss.map .list)) (a :: as) := .list hl rfl rfl (by simpa using readsAll_lists f.H r hA)
  have rb : Reads s.heap (.ref b) (.list (yss.map .list)) (b :: bs) := .list hl' rfl rfl (by simpa using readsAll_lists f.H r' hB)
  refine eq_dataH ra rb (shapedLL hx) (shapedLL hy) (by have := O.units; lia) (.same0 f (mk_bool _ _) (h _ ?_))
  simp only [PyData.eqv]
  exact eqvAll_lists hx hy
/- comprehensions -/
theorem closureFor_cells {env : Env} {scope : Scope} {cs : List (Str × Addr)} (h : env.cells = cs) : closureFor scope env = closureFor scope { env with cells := cs } := by subst h; rfl
noncomputable def relS (scope sc : Scope) : Scope := { scope with names := scope.names.map fun (n, k) => if (k == .free && sc.kind == .function && sc.names.lookup n == some .cell) then (n, .cell) else (n, k) }
theorem comp_sc {env : Env} {scope sc : Scope} {cl : List (Str × Addr)} {C : Addr} (h : env.scope = sc) : (compEnvC scope cl C env).scope = relS scope sc := by subst h; rfl
theorem relabel_eq {env : Env} {scope sc : Scope} (h : env.scope = sc) : relabel scope env = relS scope sc := by subst h; rfl
theorem comp_cells {env : Env} {scope : Scope} {cl : List (Str × Addr)} {C : Addr} : (compEnvC scope cl C env).cells = cl := rfl
theorem hcl_of {cells cl : List (Str × Addr)} (h : ∀ p ∈ cl, cells.lookup p.1 = some p.2) : ∀ x a, cl.lookup x = some a → cells.lookup x = some a := fun x a e => by
  obtain ⟨l1, l2, e1, _⟩ := List.lookup_eq_some_iff.mp e
  exact h (x, a) (by rw [e1]; simp)
/-- the names that a comprehension's body reads from around it -/
noncomputable def HlcOk (c : Cx) (scope : Scope) (cl : List (Str × Addr)) (lc l₁ : Loc) : Prop := ∀ x pv, lkp x lc = some pv → lkp x l₁ = some pv ∧ (c.env.kindOf x = some .cell ∨ c.env.kindOf x = some .free) ∧ (cl.lookup x).isSome = true ∧ (relabel scope c.env).names.lookup x ≠ some .local
theorem HlcOk.nil {scope : Scope} {cl : List (Str × Addr)} {l₁ : Loc} : HlcOk c scope cl [] l₁ := fun x pv e => by simp [lkp] at e
theorem HlcOk.cons {scope sc : Scope} {cl : List (Str × Addr)} {lc l₁ : Loc} {x : Str} {pv : PV} (hsc : c.env.scope = sc) (e : lkp x l₁ = some pv) (k : sc.names.lookup x = some .cell) (hc : (cl.lookup x).isSome = true)
    (hr : (relS scope sc).names.lookup x = some .cell) (h : HlcOk c scope cl lc l₁) : HlcOk c scope cl ((x, pv) :: lc) l₁ := fun y pw e' => by
  simp only [lkp] at e'
  split at e'
  · rename_i hy
    cases e'
    rw [hy]
    refine ⟨e, .inl (kd_of hsc k), hc, ?_⟩
    rw [relabel_eq hsc, hr]
    intro z; cases z
  · exact h y pw e'
theorem all2_snoc {α β : Type} {R : α → β → Prop} {l : List α} {m : List β} {a : α} {b : β} (h : All2 R l m) (r : R a b) : All2 R (l ++ [a]) (m ++ [b]) := h.append (.cons r .nil)
/-- a turn of a comprehension -/
noncomputable def CompTurn (c : Cx) (elt target : PySem.Expr) (ifs : List PySem.Expr) (lc : Loc) (G : Hp → PV → List PV → Prop) (pv : PV) (σ' : Hp) : Prop :=
  Tg c target pv lc σ' fun l₂ σ₂ => IfsT c ifs l₂ σ₂ fun ok l₃ σ₃ =>
    if ok then Ev c elt l₃ σ₃ fun y l₄ σ₄ => LocLe lc l₄ ∧ Ext [] σ' σ₄ ∧ G σ₄ pv [y] else LocLe lc l₃ ∧ Ext [] σ' σ₃ ∧ G σ₃ pv []
theorem Tg.mono {t : PySem.Expr} {pv : PV} {Q Q' : Loc → Hp → Prop} (h : Tg c t pv loc σ Q) (k : ∀ l σ', Q l σ' → Q' l σ') : Tg c t pv loc σ Q' := fun s u f r =>
  wpAny_mono (h s u f r) (fun _ _ ⟨b, loc', σ', h', tk', e, r, q, f', S⟩ => ⟨b, loc', σ', h', tk', e, r, k _ _ q, f', S⟩) fun _ _ x => x
theorem comp_inv {elt target : PySem.Expr} {ifs : List PySem.Expr} {scope : Scope} {cl : List (Str × Addr)} {lc : Loc} {x : PV} {xs : List PV} {σ₁ : Hp} {P : Addr → Hp → Prop} (G : Addr → Hp → PV → List PV → Prop)
    (hI : ∀ σ', Ext [] σ₁ σ' → ItemsAre σ' x xs) (hz : xs.length ≤ 1000000) (hG : ∀ D σ σ' p ys, Ext [D] σ σ' → G D σ p ys → G D σ' p ys)
    (turn : ∀ (D : Addr) (i : Nat) (pv : PV) (σ' : Hp) (C : Addr), σ₁ D = none → (∃ ys, σ' D = some (.list ys)) → xs[i]? = some pv → Ext [] σ₁ σ' → Cx.Ok (cx' c scope cl C) n → CompTurn (cx' c scope cl C) elt target ifs lc (G D) pv σ')
    (hend : ∀ D σ' yss, σ₁ D = none → Ext [] σ₁ σ' → σ' D = some (.list yss.flatten) → All2 (G D σ') xs yss → P D σ') (D : Addr) (hD : σ₁ D = none) :
    ∃ (J : Nat → Hp → Prop), J 0 (setH σ₁ D (.list [])) ∧ (∀ i σ', J i σ' → ItemsAre σ' x xs) ∧
      (∀ i σ' pv C, xs[i]? = some pv → J i σ' → Cx.Ok (cx' c scope cl C) n → Tg (cx' c scope cl C) target pv lc σ' fun l₂ σ₂ => IfsT (cx' c scope cl C) ifs l₂ σ₂ fun ok l₃ σ₃ =>
        if ok then Ev (cx' c scope cl C) elt l₃ σ₃ fun y l₄ σ₄ => LocLe lc l₄ ∧ ∃ ys, σ₄ D = some (.list ys) ∧ ys.length ≤ 1000000 ∧ J (i + 1) (setH σ₄ D (.list (ys ++ [y]))) else LocLe lc l₃ ∧ J (i + 1) σ₃) ∧
      (∀ σ', J xs.length σ' → P D σ') := by
  refine ⟨fun i σ' => Ext [] σ₁ σ' ∧ ∃ yss : List (List PV), σ' D = some (.list yss.flatten) ∧ All2 (G D σ') (xs.take i) yss ∧ yss.flatten.length ≤ i, ⟨Ext.refl.new hD, [], setH_self, ?_, Nat.zero_le _⟩, fun i σ' h => hI σ' h.1, ?_, ?_⟩
  · rw [List.take_zero]; exact .nil
  · rintro i σ' pv C hx ⟨E, yss, hd, hA, hl⟩ O'
    have hlt : i < xs.length := (List.getElem?_eq_some_iff.mp hx).1
    refine Tg.mono (turn D i pv σ' C hD ⟨_, hd⟩ hx E O') ?_
    intro l₂ σ₂ q
    refine Tr.mono q ?_
    intro ok l₃ σ₃ q
    cases ok with
    | false =>
      simp only [Bool.false_eq_true, if_false] at q ⊢
      obtain ⟨h1, h2, h3⟩ := q
      refine ⟨h1, E.trans h2, yss ++ [[]], by rw [h2 _ _ (by simp) hd]; simp, ?_, by simp only [List.flatten_append, List.flatten_cons, List.flatten_nil, List.append_nil]; lia⟩
      rw [take_succ' hx]
      exact all2_snoc (hA.mono fun a b g => hG _ _ _ _ _ (h2.mono (by simp)) g) h3
    | true =>
      simp only [if_true] at q ⊢
      refine Tr.mono q ?_
      rintro y l₄ σ₄ ⟨h1, h2, h3⟩
      have hd4 := h2 _ _ (by simp) hd
      have E4 : Ext [] σ₁ (setH σ₄ D (.list (yss.flatten ++ [y]))) := (E.trans h2).setNew hD
      have E5 : Ext [D] σ₄ (setH σ₄ D (.list (yss.flatten ++ [y]))) := Ext.refl.setH (by simp)
      refine ⟨h1, _, hd4, by lia, E4, yss ++ [[y]], by rw [setH_self]; simp, ?_, by simp only [List.flatten_append, List.flatten_cons, List.flatten_nil, List.append_nil, List.length_append, List.length_cons, List.length_nil]; lia⟩
      rw [take_succ' hx]
      exact all2_snoc (hA.mono fun a b g => hG _ _ _ _ _ E5 (hG _ _ _ _ _ (h2.mono (by simp)) g)) (hG _ _ _ _ _ E5 h3)
  · rintro σ' ⟨E, yss, hd, hA, _⟩
    rw [List.take_length] at hA
    exact hend D σ' yss hD E hd hA
theorem Ev_CompG (O : c.Ok n) {sc : Scope} (hsc : c.env.scope = sc) {elt target iter : PySem.Expr} {ifs : List PySem.Expr} {scope : Scope} {pos : Pos} {Q} (cl : List (Str × Addr)) (lc : Loc) (G : Addr → Hp → PV → List PV → Prop)
    (hclos : closureFor scope c.env = pure cl) (hcell : ∀ y ∈ scope.names, y.2 ≠ .cell) (hkind : scope.kind = .function) (hnames : ∀ y ∈ scope.names, y.2 = .local → scope.names.lookup y.1 = some .local)
    (hcl : ∀ x a, cl.lookup x = some a → c.env.cells.lookup x = some a) (hG : ∀ D σ σ' p ys, Ext [D] σ σ' → G D σ p ys → G D σ' p ys)
    (h : Ev c iter loc σ fun x l₁ σ₁ => HlcOk c scope cl lc l₁ ∧ ∃ xs : List PV, (∀ σ', Ext [] σ₁ σ' → ItemsAre σ' x xs) ∧ xs.length ≤ 1000000 ∧
      (∀ (D : Addr) (i : Nat) (pv : PV) (σ' : Hp) (C : Addr), σ₁ D = none → (∃ ys, σ' D = some (.list ys)) → xs[i]? = some pv → Ext [] σ₁ σ' → Cx.Ok (cx' c scope cl C) n → (cx' c scope cl C).env.scope = relS scope sc → CompTurn (cx' c scope cl C) elt target ifs lc (G D) pv σ') ∧
      (∀ (D : Addr) (σ' : Hp) (yss : List (List PV)), σ₁ D = none → Ext [] σ₁ σ' → σ' D = some (.list yss.flatten) → All2 (G D σ') xs yss → Q (.r D) l₁ σ'))
    (hs : ∀ x, foldedSetIterable iter c.env x = pure x := by intro _; rfl) : Ev c (.ListComp elt [⟨target, iter, ifs, 0⟩] scope pos) loc σ Q :=
  Ev_ListComp O hclos hcell hkind hnames hcl (Tr.mono h fun x l₁ σ₁ ⟨h1, xs, h2, hz, h3, h4⟩ => ⟨h1, xs, h2 _ Ext.refl, fun D hD => comp_inv (P := fun D σ' => Q (.r D) l₁ σ') G h2 hz hG (fun D i pv σ' C a b d e f => h3 D i pv σ' C a b d e f (comp_sc hsc)) h4 D hD⟩) hs
theorem Ex1_AssignCompG (O : c.Ok n) {sc : Scope} (hsc : c.env.scope = sc) {y : Str} {py pos' : Pos} {elt target iter : PySem.Expr} {ifs : List PySem.Expr} {scope : Scope} {pos : Pos} {Q} (cl : List (Str × Addr)) (lc : Loc) (G : Addr → Hp → PV → List PV → Prop)
    (hclos : closureFor scope c.env = pure cl) (hcell : ∀ y ∈ scope.names, y.2 ≠ .cell) (hkind : scope.kind = .function) (hnames : ∀ y ∈ scope.names, y.2 = .local → scope.names.lookup y.1 = some .local)
    (hcl : ∀ x a, cl.lookup x = some a → c.env.cells.lookup x = some a) (hG : ∀ D σ σ' p ys, Ext [D] σ σ' → G D σ p ys → G D σ' p ys) (hy : c.env.kindOf y = some .local)
    (hsw : swapsWith (.ListComp elt [⟨target, iter, ifs, 0⟩] scope pos) (some (.Name y py)) pos'.line c.env = pure true)
    (h : Ev c iter loc σ fun x l₁ σ₁ => HlcOk c scope cl lc l₁ ∧ ∃ xs : List PV, (∀ σ', Ext [] σ₁ σ' → ItemsAre σ' x xs) ∧ xs.length ≤ 1000000 ∧
      (∀ (D : Addr) (i : Nat) (pv : PV) (σ' : Hp) (C : Addr), σ₁ D = none → (∃ ys, σ' D = some (.list ys)) → xs[i]? = some pv → Ext [] σ₁ σ' → Cx.Ok (cx' c scope cl C) n → (cx' c scope cl C).env.scope = relS scope sc → CompTurn (cx' c scope cl C) elt target ifs lc (G D) pv σ') ∧
      (∀ (D : Addr) (σ' : Hp) (yss : List (List PV)), σ₁ D = none → Ext [] σ₁ σ' → σ' D = some (.list yss.flatten) → All2 (G D σ') xs yss → Q .next (setL y (.r D) l₁) σ'))
    (hs : ∀ x, foldedSetIterable iter c.env x = pure x := by intro _; rfl) : Ex1 c (.Assign [.Name y py] (.ListComp elt [⟨target, iter, ifs, 0⟩] scope pos) pos') loc σ Q :=
  Ex1_AssignComp O hclos hcell hkind hnames hcl hy hsw (Tr.mono h fun x l₁ σ₁ ⟨h1, xs, h2, hz, h3, h4⟩ => ⟨h1, xs, h2 _ Ext.refl, fun D hD => comp_inv (P := fun D σ' => Q .next (setL y (.r D) l₁) σ') G h2 hz hG (fun D i pv σ' C a b d e f => h3 D i pv σ' C a b d e f (comp_sc hsc)) h4 D hD⟩) hs
end
end SFw14
section SSy
theorem lkD_append {K : Type} [DecidableEq K] {k k0 : K} {v : PV} : ∀ {l : List (K × PV)}, lkD k (l ++ [(k0, v)]) = match lkD k l with | some x => some x | none => if k0 = k then some v else none
  | [] => by simp [lkD]
  | (y, u) :: l => by
    simp only [List.cons_append, lkD]
    by_cases h : y = k
    · simp [h]
    · simp only [if_neg h]; exact lkD_append
structure SA where
  (y dy tx an fl fn : Addr)
noncomputable def SA.S (a : SA) : List Addr := [a.tx, a.an, a.fl, a.fn]
noncomputable def funPV (q : Int × Int) : PV := .d (.tuple [.int q.1, .int q.2])
structure Sym (σ : Hp) (a : SA) (F : List (Int × Int)) (N : Nat) : Prop where
  ix : σ a.y = some (.inst 250 a.dy)
  ns : σ a.dy = some (.ns [(Str.ofString "texts", .r a.tx), (Str.ofString "atom_numbers", .r a.an), (Str.ofString "functors", .r a.fl), (Str.ofString "functor_numbers", .r a.fn)])
  tx : ∃ T, σ a.tx = some (.list T) ∧ T.length ≤ N
  an : ∃ M, σ a.an = some (.dS M) ∧ M.length ≤ N ∧ ∀ k pv, lkD k M = some pv → ∃ n : Nat, pv = intPV n
  fl : σ a.fl = some (.list (F.map funPV))
  fz : F.length ≤ N
  fn : ∃ M, σ a.fn = some (.dT M) ∧ M.length ≤ N ∧ ∀ at_ ar pv, lkD [at_, ar] M = some pv → ∃ n : Nat, pv = intPV n ∧ F[n]? = some (at_, ar)
  ne : a.tx ≠ a.fl
theorem Sym.mono {σ : Hp} {a : SA} {F : List (Int × Int)} {N M : Nat} (Y : Sym σ a F N) (h : N ≤ M) : Sym σ a F M :=
  let ⟨T, t1, t2⟩ := Y.tx
  let ⟨A, a1, a2, a3⟩ := Y.an
  let ⟨B, b1, b2, b3⟩ := Y.fn
  ⟨Y.ix, Y.ns, ⟨T, t1, Nat.le_trans t2 h⟩, ⟨A, a1, Nat.le_trans a2 h, a3⟩, Y.fl, Nat.le_trans Y.fz h, ⟨B, b1, Nat.le_trans b2 h, b3⟩, Y.ne⟩
theorem Sym.ext {σ σ' : Hp} {a : SA} {F : List (Int × Int)} {N : Nat} (Y : Sym σ a F N) (E : Ext [] σ σ') : Sym σ' a F N :=
  let ⟨T, t1, t2⟩ := Y.tx
  let ⟨A, a1, a2, a3⟩ := Y.an
  let ⟨B, b1, b2, b3⟩ := Y.fn
  ⟨E _ _ (by simp) Y.ix, E _ _ (by simp) Y.ns, ⟨T, E _ _ (by simp) t1, t2⟩, ⟨A, E _ _ (by simp) a1, a2, a3⟩, E _ _ (by simp) Y.fl, Y.fz, ⟨B, E _ _ (by simp) b1, b2, b3⟩, Y.ne⟩
theorem Sym.arAt {σ : Hp} {a : SA} {F : List (Int × Int)} {N n : Nat} {at_ ar : Int} (Y : Sym σ a F N) (hN : N ≤ 1000000) (h : F[n]? = some (at_, ar)) : ArAt σ a.y n ar := by
  have hlt := (List.getElem?_eq_some_iff.mp h).1
  have hz := Y.fz
  refine ⟨a.dy, a.fl, _, F.map funPV, at_, Y.ix, Y.ns, ?_, ?_, Y.fl, by lia, by lia, ?_⟩
  · simp only [lkp, ofString_inj, String.reduceEq, if_true, if_false]
  · simp only [lkp, ofString_inj, String.reduceEq, if_true, if_false]
  · rw [Int.toNat_natCast, List.getElem?_map, h]; rfl
theorem Sym.atom {σ : Hp} {a : SA} {F : List (Int × Int)} {N : Nat} {T : List PV} {M : List (Str × PV)} {x : Str} {n : Nat} (Y : Sym σ a F N) (t1 : σ a.tx = some (.list T)) (t2 : T.length ≤ N) (a1 : σ a.an = some (.dS M)) (a2 : M.length ≤ N)
    (a3 : ∀ k pv, lkD k M = some pv → ∃ n : Nat, pv = intPV n) (hx : lkD x M = none) : Sym (setH (setH σ a.tx (.list (T ++ [.d (.str x)]))) a.an (.dS (stD x (intPV n) M))) a F (N + 1) := by
  have h1 : a.tx ≠ a.y := fun e => by rw [e, Y.ix] at t1; cases t1
  have h2 : a.tx ≠ a.dy := fun e => by rw [e, Y.ns] at t1; cases t1
  have h3 : a.an ≠ a.y := fun e => by rw [e, Y.ix] at a1; cases a1
  have h4 : a.an ≠ a.dy := fun e => by rw [e, Y.ns] at a1; cases a1
  have h5 : a.an ≠ a.tx := fun e => by rw [e, t1] at a1; cases a1
  have h6 : a.an ≠ a.fl := fun e => by rw [e, Y.fl] at a1; cases a1
  obtain ⟨B, b1, b2, b3⟩ := Y.fn
  have h7 : a.an ≠ a.fn := fun e => by rw [e, b1] at a1; cases a1
  have h8 : a.tx ≠ a.fn := fun e => by rw [e, b1] at t1; cases t1
  refine ⟨?_, ?_, ⟨T ++ [.d (.str x)], ?_, ?_⟩, ⟨_, setH_self, ?_, ?_⟩, ?_, Nat.le_succ_of_le Y.fz, ⟨B, ?_, by lia, b3⟩, Y.ne⟩
  · rw [setH_ne h3.symm, setH_ne h1.symm]; exact Y.ix
  · rw [setH_ne h4.symm, setH_ne h2.symm]; exact Y.ns
  · rw [setH_ne h5.symm]; exact setH_self
  · simp; lia
  · unfold stD; rw [hx]; simp; lia
  · intro k pv e
    unfold stD at e
    rw [hx] at e
    simp only [Option.isSome_none, Bool.false_eq_true, if_false] at e
    rw [lkD_append] at e
    cases q : lkD k M with
    | some y => rw [q] at e; simp only [Option.some.injEq] at e; subst e; exact a3 k _ q
    | none =>
      rw [q] at e
      simp only at e
      by_cases hk : x = k
      · rw [if_pos hk] at e; exact ⟨n, (Option.some.inj e).symm⟩
      · rw [if_neg hk] at e; cases e
  · rw [setH_ne h6.symm, setH_ne Y.ne.symm]; exact Y.fl
  · rw [setH_ne h7.symm, setH_ne h8.symm]; exact b1
theorem Sym.functor {σ : Hp} {a : SA} {F : List (Int × Int)} {N : Nat} {M : List (List Int × PV)} {at_ ar : Int} (Y : Sym σ a F N) (b1 : σ a.fn = some (.dT M)) (b2 : M.length ≤ N)
    (b3 : ∀ at_ ar pv, lkD [at_, ar] M = some pv → ∃ n : Nat, pv = intPV n ∧ F[n]? = some (at_, ar)) (hx : lkD [at_, ar] M = none) :
    Sym (setH (setH σ a.fl (.list (F.map funPV ++ [funPV (at_, ar)]))) a.fn (.dT (stD [at_, ar] (intPV F.length) M))) a (F ++ [(at_, ar)]) (N + 1) := by
  obtain ⟨T, t1, t2⟩ := Y.tx
  obtain ⟨A, a1, a2, a3⟩ := Y.an
  have f1 := Y.fl
  have h1 : a.fl ≠ a.y := fun e => by rw [e, Y.ix] at f1; cases f1
  have h2 : a.fl ≠ a.dy := fun e => by rw [e, Y.ns] at f1; cases f1
  have h3 : a.fn ≠ a.y := fun e => by rw [e, Y.ix] at b1; cases b1
  have h4 : a.fn ≠ a.dy := fun e => by rw [e, Y.ns] at b1; cases b1
  have h5 : a.fn ≠ a.tx := fun e => by rw [e, t1] at b1; cases b1
  have h6 : a.fn ≠ a.fl := fun e => by rw [e, Y.fl] at b1; cases b1
  have h7 : a.fn ≠ a.an := fun e => by rw [e, a1] at b1; cases b1
  have h8 : a.fl ≠ a.an := fun e => by rw [e, a1] at f1; cases f1
  refine ⟨?_, ?_, ⟨T, ?_, by lia⟩, ⟨A, ?_, by lia, a3⟩, ?_, ?_, ⟨_, setH_self, ?_, ?_⟩, Y.ne⟩
  · rw [setH_ne h3.symm, setH_ne h1.symm]; exact Y.ix
  · rw [setH_ne h4.symm, setH_ne h2.symm]; exact Y.ns
  · rw [setH_ne h5.symm, setH_ne Y.ne]; exact t1
  · rw [setH_ne h7.symm, setH_ne h8.symm]; exact a1
  · rw [setH_ne h6.symm, setH_self, List.map_append]; rfl
  · have := Y.fz; simp; lia
  · unfold stD; rw [hx]; simp; lia
  · intro k r pv e
    unfold stD at e
    rw [hx] at e
    simp only [Option.isSome_none, Bool.false_eq_true, if_false] at e
    rw [lkD_append] at e
    cases q : lkD [k, r] M with
    | some y =>
      rw [q] at e; simp only [Option.some.injEq] at e; subst e
      obtain ⟨n, e1, e2⟩ := b3 k r _ q
      refine ⟨n, e1, ?_⟩
      rw [List.getElem?_append_left (List.getElem?_eq_some_iff.mp e2).1]; exact e2
    | none =>
      rw [q] at e
      simp only at e
      by_cases hk : [at_, ar] = [k, r]
      · rw [if_pos hk] at e
        simp only [List.cons.injEq, and_true] at hk
        obtain ⟨rfl, rfl⟩ := hk
        exact ⟨F.length, (Option.some.inj e).symm, by simp⟩
      · rw [if_neg hk] at e; cases e
noncomputable def unD : PV → PyData
  | .d x => x
  | _ => .none
noncomputable def isS : PyData → Bool
  | .str _ => true
  | _ => false
noncomputable def isSI : PyData → Bool
  | .tuple [.str _, .int _] => true
  | _ => false
theorem isS_of {d : PyData} (h : isS d = true) : ∃ x, d = .str x := by
  cases d <;> first | exact ⟨_, rfl⟩ | cases h
theorem isSI_of {d : PyData} (h : isSI d = true) : ∃ x n, d = .tuple [.str x, .int n] := by
  unfold isSI at h
  split at h
  · exact ⟨_, _, rfl⟩
  · cases h
end SSy
local macro_rules | `(tactic| k_extra "kd") => `(tactic| exact kd_of (by assumption) rfl)
local macro_rules | `(tactic| k_extra "lk") => `(tactic| (with_reducible first
  | exact lk_sh
  | exact lk_ch
  | exact lk_nil
  | (refine' lk_sh2 ?e; (case e => k_dflt (first | rfl | done)))
  | (refine' lk_ch2 ?e; (case e => k_dflt (first | rfl | done)))
  | (refine' lk_sm ?h ?e; (case h => kernel_rfl); (case e => k_extra "lk"))
  | (refine' lk_cm ?h ?e; (case h => kernel_rfl); (case e => k_extra "lk"))))
local macro_rules | `(tactic| k_extra "sg") => `(tactic| first
  | assumption
  | exact setH_self
  | exact setH_new (by assumption) (by k_extra "sg")
  | exact (setH_ne (by assumption)).trans (by k_extra "sg")
  | exact (setH_ne (Ne.symm (by assumption))).trans (by k_extra "sg"))
local macro_rules | `(tactic| k_extra "g") => `(tactic| (
  (with_reducible (first | refine' g_matching ?o ?k ?p ?h | refine' g_all_variable ?o ?k ?p ?h | refine' g_BlockBuilder ?o ?k ?p ?h | refine' g_small_block ?o ?k ?p ?h | refine' g_chain_block ?o ?k ?p ?h | refine' g_index_block ?o ?k ?p ?h | refine' g_clause_groups ?o ?k ?p ?h | refine' g_group_block ?o ?k ?p ?h | refine' g_fixed_atoms ?o ?k ?p ?h | refine' g_fixed_functors ?o ?k ?p ?h | refine' g_Symbols ?o ?k ?p ?h | refine' g_ClauseCode ?o ?k ?p ?h | refine' g_law_row ?o ?k ?p ?h | refine' g_law_next ?o ?k ?p ?h | refine' g_law_key ?o ?k ?p ?h | refine' g_law_matches ?o ?k ?p ?h | refine' g_law_target ?o ?k ?p ?h | refine' g_law_visits ?o ?k ?p ?h | refine' g_len ?o ?k ?p ?h | refine' g_range ?o ?k ?p ?h | refine' g_list ?o ?k ?p ?h | refine' g_tuple ?o ?k ?p ?h)); (case o => assumption); (case k => k_extra "kd"); (case p => kernel_rfl)))
local macro_rules | `(tactic| k_extra "lle") => `(tactic| (repeat' (first | exact LocLe.nil | (refine LocLe.cons (by k_extra "lk") ?_))))
local macro_rules | `(tactic| k_extra "tg") => `(tactic| ((with_reducible refine' Tg_name ?o ?k ?h); (case o => assumption); (case k => k_extra "kd")))
local macro_rules | `(tactic| k_extra "app") => `(tactic| ((with_reducible refine' k_append ?o ?h ?e ?p ?st ?s); (case o => assumption); (case e => rfl); (case p => kernel_rfl); (case st => rfl); (case s => rfl)))
local macro_rules | `(tactic| k_extra "1") => `(tactic| (first
  | (with_reducible (first | refine' Eq.mpr (if_pos rfl) ?_ | refine' Eq.mpr (if_neg Bool.false_ne_true) ?_ | refine' k_cons ?_ | refine' k_Return ?_ | refine' k_If ?_))
  | ((with_reducible refine' k_Assign ?o ?h ?k ?s); (case o => assumption); (case k => k_extra "kd"); (case s => rfl))
  | ((with_reducible (first | refine' k_AssignAttr ?o ?h ?s | refine' k_AssignSub ?o ?h ?s)); (case o => assumption); (case s => rfl))
  | ((with_reducible refine' k_Aug ?o ?l ?k ?h); (case o => assumption); (case k => k_extra "kd"); (case l => k_extra "lk"))
  | (k_extra "app")
  | (with_reducible refine' ⟨_, _, rfl, ?al, ?ah⟩; (case al => k_extra "sg"))
  | ((with_reducible refine' k_Expr ?o ?h ?s); (case o => assumption); (case s => rfl))
  | (k_extra "tg")
  | (with_reducible (first | refine' Ex1_Continue ?_ | refine' Ex_nil ?_ | refine' Ev_int ?_ | refine' Ev_str ?_ | refine' Ev_bool ?_ | refine' Ev_none ?_))
  | ((with_reducible refine' Ev_local ?o ?l ?k ?h ?d); (case o => assumption); (case k => k_extra "kd"); (case l => k_extra "lk"); (case d => decide +kernel))
  | ((with_reducible (first | refine' Ev_VAR_KEY ?o ?k ?h | refine' Ev_LIST_KEY ?o ?k ?h | refine' Ev_FAIL_LABEL ?o ?k ?h | refine' Ev_F_MINUS1 ?o ?k ?h | refine' Ev_F_MINUS ?o ?k ?h | refine' Ev_F_PLUS ?o ?k ?h | refine' Ev_CON ?o ?k ?h | refine' Ev_INT ?o ?k ?h)); (case o => assumption); (case k => k_extra "kd"))
  | ((with_reducible (first | refine' k_BinOp ?o ?h | refine' k_Sub ?o ?h | refine' k_Tuple ?o ?h | refine' k_List ?o ?h | refine' Op2_eqI ?o ⟨_, rfl, ?h⟩ | refine' Op2_neI ?o ⟨_, rfl, ?h⟩)); (case o => assumption))
  | ((with_reducible refine' k_Attr ?h ?e); (case e => with_unfolding_all rfl))
  | ((with_reducible refine' k_Evs ?o ?h ?e); (case o => assumption); (case e => rfl))
  | (with_reducible (first | refine' Ev_Or3 ?_ | refine' OrC_one ?_ | refine' k_OrC ?_ | refine' k_Unary ?_ | refine' k_IfExp ?_ | refine' Evs_nil ?_ | refine' Op1_neg ?_ | refine' Op2_add ?_ | refine' Op2_iadd ?_ | refine' Op2_sub ?_ | refine' Op2_lt ⟨_, rfl, ?_⟩ | refine' Op2_le ⟨_, rfl, ?_⟩ | refine' Op2_gt ⟨_, rfl, ?_⟩ | refine' Op2_ge ⟨_, rfl, ?_⟩ | refine' k_IsTOr ?_ | refine' k_IsTAnd ?_ | refine' k_AllOr ?_ | refine' k_AllAnd ?_ | refine' k_OrNil ?_ | refine' k_AndNil ?_))
  | ((with_reducible (first | refine' k_IsT1 ?o ?h ?e | refine' k_Compare1 ?o ?h ?e)); (case o => assumption); (case e => with_unfolding_all rfl))))
local macro_rules | `(tactic| k_extra "w") => `(tactic| repeat (k_extra "1"))
section SSy1
variable {w : World} {base : Heap} {mg mb : Str → Option Value}
-- set_option profiler true
-- set_option profiler.threshold 1000
theorem F_atom (G : (gx w base mg mb).Ok) {σ : Hp} {a : SA} {F : List (Int × Int)} {N : Nat} {x : Str} {Q} (Y : Sym σ a F N) (hN : N ≤ 1000)
    (h : ∀ σ' (n : Nat), Sym σ' a F (N + 1) → Ext a.S σ σ' → Q (intPV n) σ') : FnC (gx w base mg mb) 1 (.ref 184) [.r a.y, .d (.str x)] σ Q := by
  refine FnC_def G [Str.ofString "self", Str.ofString "text"] (by exact rfl) (by kernel_rfl) (by (intro vs hvs; rcases vs with _ | ⟨a0, _ | ⟨a1, _ | ⟨a2, _ | ⟨a3, _ | ⟨a4, _ | ⟨a5, r⟩⟩⟩⟩⟩⟩ <;> first | (exfalso; simp at hvs; done) | rfl)) (by kernel_rfl) (by decide +kernel) ?_
  intro A F' env O hsc
  dsimp only [List.zip, List.zipWith]
  have ix := Y.ix
  have ns := Y.ns
  obtain ⟨T, t1, t2⟩ := Y.tx
  obtain ⟨M, a1, a2, a3⟩ := Y.an
  k_extra "w"
  ((with_reducible refine' k_CallMB (id := "dict.get") ?z2o ?z2h ?z2e ?z2p); (case z2o => assumption); (case z2e => rfl); (case z2p => kernel_rfl))
  k_extra "w"
  (with_reducible refine' Op1_attr ?z3o ?z3ix ?z3ns ?z3lk ?z3hg ?z3hh ?z3ha ?z3h; (case z3o => assumption); (case z3ix => k_extra "sg"); (case z3ns => k_extra "sg"); (case z3lk => k_extra "lk"); (case z3hg => kernel_rfl); (case z3hh => kernel_rfl); (case z3ha => kernel_rfl))
  refine ⟨gm_dictS a1 PySem.F.slot_dict_get PySem.F.type_dict_get, ?_⟩
  k_extra "w"
  refine Fn_getS G a1 ?_
  cases hx : lkD x M with
  | some pv =>
    obtain ⟨n, rfl⟩ := a3 _ _ hx
    simp only [Option.getD_some]
    k_extra "w"
    (try (with_reducible refine' Eq.mpr (if_pos ?z4n) ?z4h; (case z4n => ((try simp only [decide_eq_true_eq, Option.map_none, Option.isSome_none, Option.map_some, Option.isSome_some, Bool.false_eq_true, not_false_eq_true, List.length_cons, List.length_map, List.length_nil, Bool.not_eq_true]); first | done | lia | assumption))))
    k_extra "w"
    exact h σ n (Y.mono (Nat.le_succ _)) Ext.refl
  | none =>
    simp only [Option.getD_none]
    k_extra "w"
    (try (with_reducible refine' Eq.mpr (if_neg ?z5n) ?z5h; (case z5n => ((try simp only [decide_eq_true_eq, Option.map_none, Option.isSome_none, Option.map_some, Option.isSome_some, Bool.false_eq_true, not_false_eq_true, List.length_cons, List.length_map, List.length_nil, Bool.not_eq_true]); first | done | lia | assumption))))
    k_extra "w"
    k_extra "g"
    k_extra "w"
    (with_reducible refine' Op1_attr ?z6o ?z6ix ?z6ns ?z6lk ?z6hg ?z6hh ?z6ha ?z6h; (case z6o => assumption); (case z6ix => k_extra "sg"); (case z6ns => k_extra "sg"); (case z6lk => k_extra "lk"); (case z6hg => kernel_rfl); (case z6hh => kernel_rfl); (case z6ha => kernel_rfl))
    k_extra "w"
    refine Fn_len t1 (by lia) ?_
    k_extra "w"
    (with_reducible refine' Op1_attr ?z7o ?z7ix ?z7ns ?z7lk ?z7hg ?z7hh ?z7ha ?z7h; (case z7o => assumption); (case z7ix => k_extra "sg"); (case z7ns => k_extra "sg"); (case z7lk => k_extra "lk"); (case z7hg => kernel_rfl); (case z7hh => kernel_rfl); (case z7ha => kernel_rfl))
    refine ⟨_, _, rfl, t1, ?_⟩
    k_extra "w"
    refine ⟨_, t1, by lia, ?_⟩
    have Y' := Y.atom (x := x) (n := T.length) t1 t2 a1 a2 a3 hx
    have n1 : a.an ≠ a.tx := fun e => by rw [e, t1] at a1; cases a1
    have n2 : a.tx ≠ a.y := fun e => by rw [e, ix] at t1; cases t1
    have n3 : a.tx ≠ a.dy := fun e => by rw [e, ns] at t1; cases t1
    k_extra "w"
    (with_reducible refine' Op1_attr ?z8o ?z8ix ?z8ns ?z8lk ?z8hg ?z8hh ?z8ha ?z8h; (case z8o => assumption); (case z8ix => k_extra "sg"); (case z8ns => k_extra "sg"); (case z8lk => k_extra "lk"); (case z8hg => kernel_rfl); (case z8hh => kernel_rfl); (case z8ha => kernel_rfl))
    k_extra "w"
    refine Op3_setDS O ((setH_ne n1).trans a1) (by lia) ?_
    k_extra "w"
    exact h _ _ Y' ((Ext.refl.setH (by simp [SA.S])).setH (by simp [SA.S]))
theorem F_functor (G : (gx w base mg mb).Ok) {σ : Hp} {a : SA} {F : List (Int × Int)} {N : Nat} {at_ ar : Int} {Q} (Y : Sym σ a F N) (hN : N ≤ 1000)
    (h : ∀ σ' (n : Nat) F', Sym σ' a F' (N + 1) → F'[n]? = some (at_, ar) → (∀ (i : Nat) x, F[i]? = some x → F'[i]? = some x) → Ext a.S σ σ' → Q (intPV n) σ') : FnC (gx w base mg mb) 1 (.ref 198) [.r a.y, intPV at_, intPV ar] σ Q := by
  refine FnC_def G [Str.ofString "self", Str.ofString "atom", Str.ofString "arity"] (by exact rfl) (by kernel_rfl) (by (intro vs hvs; rcases vs with _ | ⟨a0, _ | ⟨a1, _ | ⟨a2, _ | ⟨a3, _ | ⟨a4, _ | ⟨a5, r⟩⟩⟩⟩⟩⟩ <;> first | (exfalso; simp at hvs; done) | rfl)) (by kernel_rfl) (by decide +kernel) ?_
  intro A F' env O hsc
  dsimp only [List.zip, List.zipWith]
  have ix := Y.ix
  have ns := Y.ns
  have f1 := Y.fl
  have fz := Y.fz
  obtain ⟨M, b1, b2, b3⟩ := Y.fn
  k_extra "w"
  (first | refine ⟨[_], rfl, Nat.le_of_ble_eq_true rfl, ?_⟩ | refine ⟨[_, _], rfl, Nat.le_of_ble_eq_true rfl, ?_⟩ | refine ⟨[_, _, _], rfl, Nat.le_of_ble_eq_true rfl, ?_⟩ | refine ⟨[_, _, _, _], rfl, Nat.le_of_ble_eq_true rfl, ?_⟩ | refine ⟨[_, _, _, _, _], rfl, Nat.le_of_ble_eq_true rfl, ?_⟩)
  k_extra "w"
  ((with_reducible refine' k_CallMB (id := "dict.get") ?z11o ?z11h ?z11e ?z11p); (case z11o => assumption); (case z11e => rfl); (case z11p => kernel_rfl))
  k_extra "w"
  (with_reducible refine' Op1_attr ?z12o ?z12ix ?z12ns ?z12lk ?z12hg ?z12hh ?z12ha ?z12h; (case z12o => assumption); (case z12ix => k_extra "sg"); (case z12ns => k_extra "sg"); (case z12lk => k_extra "lk"); (case z12hg => kernel_rfl); (case z12hh => kernel_rfl); (case z12ha => kernel_rfl))
  refine ⟨gm_dictT b1 PySem.F.slot_dict_get PySem.F.type_dict_get, ?_⟩
  k_extra "w"
  refine Fn_getT (k := [at_, ar]) G b1 ?_
  cases hx : lkD [at_, ar] M with
  | some pv =>
    obtain ⟨n, rfl, hn⟩ := b3 _ _ _ hx
    simp only [Option.getD_some]
    k_extra "w"
    (try (with_reducible refine' Eq.mpr (if_pos ?z13n) ?z13h; (case z13n => ((try simp only [decide_eq_true_eq, Option.map_none, Option.isSome_none, Option.map_some, Option.isSome_some, Bool.false_eq_true, not_false_eq_true, List.length_cons, List.length_map, List.length_nil, Bool.not_eq_true]); first | done | lia | assumption))))
    k_extra "w"
    exact h σ n F (Y.mono (Nat.le_succ _)) hn (fun _ _ e => e) Ext.refl
  | none =>
    simp only [Option.getD_none]
    k_extra "w"
    (try (with_reducible refine' Eq.mpr (if_neg ?z14n) ?z14h; (case z14n => ((try simp only [decide_eq_true_eq, Option.map_none, Option.isSome_none, Option.map_some, Option.isSome_some, Bool.false_eq_true, not_false_eq_true, List.length_cons, List.length_map, List.length_nil, Bool.not_eq_true]); first | done | lia | assumption))))
    k_extra "w"
    k_extra "g"
    k_extra "w"
    (with_reducible refine' Op1_attr ?z15o ?z15ix ?z15ns ?z15lk ?z15hg ?z15hh ?z15ha ?z15h; (case z15o => assumption); (case z15ix => k_extra "sg"); (case z15ns => k_extra "sg"); (case z15lk => k_extra "lk"); (case z15hg => kernel_rfl); (case z15hh => kernel_rfl); (case z15ha => kernel_rfl))
    k_extra "w"
    refine Fn_len f1 (by rw [List.length_map]; lia) ?_
    rw [List.length_map]
    k_extra "w"
    (with_reducible refine' Op1_attr ?z16o ?z16ix ?z16ns ?z16lk ?z16hg ?z16hh ?z16ha ?z16h; (case z16o => assumption); (case z16ix => k_extra "sg"); (case z16ns => k_extra "sg"); (case z16lk => k_extra "lk"); (case z16hg => kernel_rfl); (case z16hh => kernel_rfl); (case z16ha => kernel_rfl))
    refine ⟨_, _, rfl, f1, ?_⟩
    k_extra "w"
    refine ⟨_, f1, by rw [List.length_map]; lia, ?_⟩
    have Y' := Y.functor (at_ := at_) (ar := ar) b1 b2 b3 hx
    have n1 : a.fn ≠ a.fl := fun e => by rw [e, f1] at b1; cases b1
    have n2 : a.fl ≠ a.y := fun e => by rw [e, ix] at f1; cases f1
    have n3 : a.fl ≠ a.dy := fun e => by rw [e, ns] at f1; cases f1
    k_extra "w"
    (with_reducible refine' Op1_attr ?z17o ?z17ix ?z17ns ?z17lk ?z17hg ?z17hh ?z17ha ?z17h; (case z17o => assumption); (case z17ix => k_extra "sg"); (case z17ns => k_extra "sg"); (case z17lk => k_extra "lk"); (case z17hg => kernel_rfl); (case z17hh => kernel_rfl); (case z17ha => kernel_rfl))
    k_extra "w"
    refine Op3_setDT (k := [at_, ar]) O ((setH_ne n1).trans b1) (by lia) ?_
    k_extra "w"
    refine h _ _ _ Y' (by simp) (fun i x e => ?_) ((Ext.refl.setH (by simp [SA.S])).setH (by simp [SA.S]))
    rw [List.getElem?_append_left (List.getElem?_eq_some_iff.mp e).1]; exact e
theorem F_func (G : (gx w base mg mb).Ok) {σ : Hp} {a : SA} {F : List (Int × Int)} {N : Nat} {x : Str} {ar : Int} {Q} (Y : Sym σ a F N) (hN : N ≤ 900)
    (h : ∀ σ' (n : Nat) F' t, Sym σ' a F' (N + 2) → F'[n]? = some (t, ar) → (∀ (i : Nat) x, F[i]? = some x → F'[i]? = some x) → Ext a.S σ σ' → Q (intPV n) σ') : FnC (gx w base mg mb) 2 (.ref 205) [.r a.y, .d (.str x), intPV ar] σ Q := by
  refine FnC_def G [Str.ofString "self", Str.ofString "text", Str.ofString "arity"] (by exact rfl) (by kernel_rfl) (by (intro vs hvs; rcases vs with _ | ⟨a0, _ | ⟨a1, _ | ⟨a2, _ | ⟨a3, _ | ⟨a4, _ | ⟨a5, r⟩⟩⟩⟩⟩⟩ <;> first | (exfalso; simp at hvs; done) | rfl)) (by kernel_rfl) (by decide +kernel) ?_
  intro A F' env O hsc
  dsimp only [List.zip, List.zipWith]
  have ix := Y.ix
  have ns := Y.ns
  k_extra "w"
  ((with_reducible refine' k_CallM ?z19o ?z19h ?z19e ?z19p); (case z19o => assumption); (case z19e => rfl); (case z19p => kernel_rfl))
  k_extra "w"
  refine ⟨_, _, _, _, 198, rfl, ix, ns, by k_extra "lk", by kernel_rfl, by kernel_rfl, by kernel_rfl, by kernel_rfl, ?_⟩
  k_extra "w"
  ((with_reducible refine' k_CallM ?z20o ?z20h ?z20e ?z20p); (case z20o => assumption); (case z20e => rfl); (case z20p => kernel_rfl))
  k_extra "w"
  refine ⟨_, _, _, _, 184, rfl, ix, ns, by k_extra "lk", by kernel_rfl, by kernel_rfl, by kernel_rfl, by kernel_rfl, ?_⟩
  k_extra "w"
  refine (F_atom G Y (by lia) fun σ₁ n₁ Y₁ E₁ => ?_).fn
  k_extra "w"
  refine (F_functor G Y₁ (by lia) fun σ₂ n₂ F₂ Y₂ hF hp E₂ => ?_).fn
  exact h σ₂ n₂ F₂ _ Y₂ hF hp (E₁.trans E₂)
end SSy1
section SSy2
variable {w : World} {base : Heap} {mg mb : Str → Option Value}
-- set_option profiler true
-- set_option profiler.threshold 1000
noncomputable def cst : PySem.Expr → Option PyData
  | .Constant (.str x) _ _ => some (.str x)
  | .Constant (.int i) _ _ => some (.int i)
  | _ => none
noncomputable def cst2 : PySem.Expr → Option PyData
  | .Tuple [a, b] _ _ => match cst a, cst b with
    | some x, some y => some (.tuple [x, y])
    | _, _ => none
  | .Constant (.str x) _ _ => some (.str x)
  | _ => none
section
variable {c : Cx} {n : Nat} {loc : Loc} {σ : Hp}
theorem Ev_cst {e : PySem.Expr} {d : PyData} {Q : PV → Loc → Hp → Prop} (h : cst e = some d) (q : Q (.d d) loc σ) : Ev c e loc σ Q := by
  unfold cst at h
  split at h
  · cases h; exact Ev_str q
  · cases h; exact Ev_int q
  · cases h
theorem cst_plain {e : PySem.Expr} {d : PyData} (h : cst e = some d) : plainE e = true := by
  unfold cst at h
  split at h
  · rfl
  · rfl
  · cases h
theorem Ev_cst2 (O : c.Ok n) {e : PySem.Expr} {d : PyData} {Q : PV → Loc → Hp → Prop} (h : cst2 e = some d) (q : Q (.d d) loc σ) : Ev c e loc σ Q := by
  unfold cst2 at h
  split at h
  · split at h
    · rename_i a b _ _ x y h1 h2
      cases h
      exact Ev_Tuple O (Evs_cons O (Ev_cst h1 (Evs_cons O (Ev_cst h2 (Evs_nil ⟨[x, y], rfl, Nat.le_of_ble_eq_true rfl, q⟩)) (star_plain (cst_plain h2) _ _))) (star_plain (cst_plain h1) _ _))
    · cases h
  · cases h; exact Ev_str q
  · cases h
theorem cst2_plain {e : PySem.Expr} {d : PyData} (h : cst2 e = some d) : plainE e = true := by
  unfold cst2 at h
  split at h
  · rfl
  · rfl
  · cases h
theorem Evs_cst2 (O : c.Ok n) {pos : Pos} : ∀ {es : List PySem.Expr} {ds : List PyData} {Q : List PV → Loc → Hp → Prop}, es.map cst2 = ds.map some → Q (ds.map .d) loc σ → Evs c pos es loc σ Q
  | [], [], Q, _, q => Evs_nil q
  | [], _ :: _, Q, h, q => by simp at h
  | _ :: _, [], Q, h, q => by simp at h
  | e :: es, d :: ds, Q, h, q => by
    simp only [List.map_cons, List.cons.injEq] at h
    exact Evs_cons O (Ev_cst2 O h.1 (Evs_cst2 O h.2 q)) (star_plain (cst2_plain h.1) _ _)
end
noncomputable def getAll : List (Option PyData) → List PyData := List.filterMap id
theorem map_getAll : ∀ {l : List (Option PyData)}, l.all (·.isSome) = true → l = (getAll l).map some
  | [], _ => rfl
  | none :: l, h => by simp at h
  | some x :: l, h => by
    simp only [List.all_cons, Option.isSome_some, Bool.true_and] at h
    have := map_getAll h
    simp only [getAll, List.filterMap_cons, id, List.map_cons] at this ⊢
    exact congrArg _ this
theorem tup_all {ds : List PyData} {P : List PyData → Prop} (hl : ds.length ≤ 1000) (q : P ds) : ∃ ds', ds.map PV.d = ds'.map .d ∧ ds'.length ≤ 1000 ∧ P ds' := ⟨ds, rfl, hl, q⟩
theorem F_fixed_atoms (G : (gx w base mg mb).Ok) {σ : Hp} {Q} (h : ∀ ds : List PyData, ds.length ≤ 100 → (∀ d ∈ ds, ∃ x, d = .str x) → Q (.d (.tuple ds)) σ) : FnC (gx w base mg mb) 1 (.ref 156) [] σ Q := by
  refine FnC_def G [] (by exact rfl) (by kernel_rfl) (by (intro vs hvs; rcases vs with _ | ⟨a0, _ | ⟨a1, _ | ⟨a2, _ | ⟨a3, _ | ⟨a4, _ | ⟨a5, r⟩⟩⟩⟩⟩⟩ <;> first | (exfalso; simp at hvs; done) | rfl)) (by kernel_rfl) (by decide +kernel) ?_
  intro A F' env O hsc
  k_extra "1"
  k_extra "1"
  k_extra "1"
  with_reducible refine' Evs_cst2 O ?h ?q
  rotate_left
  with_reducible refine' map_getAll ?_
  · kernel_rfl
  with_reducible refine' tup_all ?_ ?_
  · exact Nat.le_of_ble_eq_true (by kernel_rfl)
  refine h _ (Nat.le_of_ble_eq_true (by kernel_rfl)) fun d hd => isS_of ?_
  exact (List.all_eq_true.mp (show List.all _ isS = true from by kernel_rfl)) d hd
theorem F_fixed_functors (G : (gx w base mg mb).Ok) {σ : Hp} {Q} (h : ∀ ds : List PyData, ds.length ≤ 100 → (∀ d ∈ ds, ∃ x n, d = .tuple [.str x, .int n]) → Q (.d (.tuple ds)) σ) : FnC (gx w base mg mb) 1 (.ref 163) [] σ Q := by
  refine FnC_def G [] (by exact rfl) (by kernel_rfl) (by (intro vs hvs; rcases vs with _ | ⟨a0, _ | ⟨a1, _ | ⟨a2, _ | ⟨a3, _ | ⟨a4, _ | ⟨a5, r⟩⟩⟩⟩⟩⟩ <;> first | (exfalso; simp at hvs; done) | rfl)) (by kernel_rfl) (by decide +kernel) ?_
  intro A F' env O hsc
  k_extra "1"
  k_extra "1"
  k_extra "1"
  with_reducible refine' Evs_cst2 O ?h ?q
  rotate_left
  with_reducible refine' map_getAll ?_
  · kernel_rfl
  with_reducible refine' tup_all ?_ ?_
  · exact Nat.le_of_ble_eq_true (by kernel_rfl)
  refine h _ (Nat.le_of_ble_eq_true (by kernel_rfl)) fun d hd => isSI_of ?_
  exact (List.all_eq_true.mp (show List.all _ isSI = true from by kernel_rfl)) d hd
end SSy2
section SSy3
variable {w : World} {base : Heap} {mg mb : Str → Option Value}
-- set_option profiler true
-- set_option profiler.threshold 1000
theorem F_Symbols (G : (gx w base mg mb).Ok) {σ : Hp} {Q} (h : ∀ σ' a F, Sym σ' a F 400 → Ext [] σ σ' → (∀ b ∈ a.S, σ b = none) → Q (.r a.y) σ') : Fn (gx w base mg mb) 4 (.ref 250) [] σ Q := by
  refine Fn_cls G (n := 3) (fI := 177) (by kernel_rfl) (by kernel_rfl) (by kernel_rfl) fun x dx hx hdx hne => ?_
  refine FnC_def G [Str.ofString "self"] (by exact rfl) (by kernel_rfl) (by (intro vs hvs; rcases vs with _ | ⟨a0, _ | ⟨a1, _ | ⟨a2, _ | ⟨a3, _ | ⟨a4, _ | ⟨a5, r⟩⟩⟩⟩⟩⟩ <;> first | (exfalso; simp at hvs; done) | rfl)) (by kernel_rfl) (by decide +kernel) ?_
  intro A F env O hsc
  dsimp only [List.zip, List.zipWith]
  have ix : (setH (setH σ dx (.ns [])) x (.inst 250 dx)) x = some (.inst 250 dx) := setH_self
  have ns : (setH (setH σ dx (.ns [])) x (.inst 250 dx)) dx = some (.ns []) := by rw [setH_ne hne.symm]; exact setH_self
  have E0 : Ext [] σ (setH (setH σ dx (.ns [])) x (.inst 250 dx)) := (Ext.refl.setNew hdx).setNew hx
  generalize setH (setH σ dx (.ns [])) x (.inst 250 dx) = σ₀ at *
  k_extra "w"
  refine ⟨Nat.zero_le _, fun tx htx => ?_⟩
  have d1 : tx ≠ dx := fun e => by rw [e, ns] at htx; cases htx
  have x1 : tx ≠ x := fun e => by rw [e, ix] at htx; cases htx
  k_extra "w"
  (with_reducible refine' Op2_setAttr ?z24o ?z24ix ?z24ns ?z24hz ?z24hs ?z24hp ?z24ht ?z24hh ?z24h; (case z24o => assumption); (case z24ix => k_extra "sg"); (case z24ns => k_extra "sg"); (case z24hz => exact Nat.le_of_ble_eq_true rfl); (case z24hs => kernel_rfl); (case z24hp => kernel_rfl); (case z24ht => kernel_rfl); (case z24hh => kernel_rfl))
  k_extra "w"
  refine Ev_DictS O fun an han => ?_
  have d2 : an ≠ dx := fun e => by rw [e, setH_self] at han; cases han
  rw [setH_ne d2] at han
  have t2 : an ≠ tx := fun e => by rw [e, setH_self] at han; cases han
  rw [setH_ne t2] at han
  have x2 : an ≠ x := fun e => by rw [e, ix] at han; cases han
  have ns1 : ∀ (m m' : MO) τ, (setH (setH τ dx m) an m') dx = some m := fun m m' τ => by rw [setH_ne d2.symm]; exact setH_self
  k_extra "w"
  (with_reducible refine' Op2_setAttr ?z25o ?z25ix ?z25ns ?z25hz ?z25hs ?z25hp ?z25ht ?z25hh ?z25h; (case z25o => assumption); (case z25ix => k_extra "sg"); (case z25ns => k_extra "sg"); (case z25hz => exact Nat.le_of_ble_eq_true rfl); (case z25hs => kernel_rfl); (case z25hp => kernel_rfl); (case z25ht => kernel_rfl); (case z25hh => kernel_rfl))
  k_extra "w"
  refine ⟨Nat.zero_le _, fun fl hfl => ?_⟩
  have d3 : fl ≠ dx := fun e => by rw [e, setH_self] at hfl; cases hfl
  rw [setH_ne d3] at hfl
  have t3 : fl ≠ an := fun e => by rw [e, setH_self] at hfl; cases hfl
  rw [setH_ne t3, setH_ne d3] at hfl
  have t4 : fl ≠ tx := fun e => by rw [e, setH_self] at hfl; cases hfl
  rw [setH_ne t4] at hfl
  have x3 : fl ≠ x := fun e => by rw [e, ix] at hfl; cases hfl
  have ns2 : ∀ (m m' : MO) τ, (setH (setH τ dx m) fl m') dx = some m := fun m m' τ => by rw [setH_ne d3.symm]; exact setH_self
  k_extra "w"
  (with_reducible refine' Op2_setAttr ?z26o ?z26ix ?z26ns ?z26hz ?z26hs ?z26hp ?z26ht ?z26hh ?z26h; (case z26o => assumption); (case z26ix => k_extra "sg"); (case z26ns => k_extra "sg"); (case z26hz => exact Nat.le_of_ble_eq_true rfl); (case z26hs => kernel_rfl); (case z26hp => kernel_rfl); (case z26ht => kernel_rfl); (case z26hh => kernel_rfl))
  k_extra "w"
  refine Ev_DictT O fun fn hfn => ?_
  have d5 : fn ≠ dx := fun e => by rw [e, setH_self] at hfn; cases hfn
  rw [setH_ne d5] at hfn
  have t5 : fn ≠ fl := fun e => by rw [e, setH_self] at hfn; cases hfn
  rw [setH_ne t5, setH_ne d5] at hfn
  have t6 : fn ≠ an := fun e => by rw [e, setH_self] at hfn; cases hfn
  rw [setH_ne t6, setH_ne d5] at hfn
  have t7 : fn ≠ tx := fun e => by rw [e, setH_self] at hfn; cases hfn
  rw [setH_ne t7] at hfn
  have x4 : fn ≠ x := fun e => by rw [e, ix] at hfn; cases hfn
  have ns3 : ∀ (m m' : MO) τ, (setH (setH τ dx m) fn m') dx = some m := fun m m' τ => by rw [setH_ne d5.symm]; exact setH_self
  k_extra "w"
  (with_reducible refine' Op2_setAttr ?z27o ?z27ix ?z27ns ?z27hz ?z27hs ?z27hp ?z27ht ?z27hh ?z27h; (case z27o => assumption); (case z27ix => k_extra "sg"); (case z27ns => k_extra "sg"); (case z27hz => exact Nat.le_of_ble_eq_true rfl); (case z27hs => kernel_rfl); (case z27hp => kernel_rfl); (case z27ht => kernel_rfl); (case z27hh => kernel_rfl))
  have n0 : ∀ {a}, σ₀ a = none → σ a = none := fun {a} e => by
    cases q : σ a with
    | none => rfl
    | some mo => have := E0 _ _ (by simp) q; rw [e] at this; cases this
  obtain ⟨σ₁, hσ₁⟩ : ∃ σ₁, σ₁ = (setH (setH (setH (setH (setH (setH (setH (setH σ₀ tx (.list [])) dx (.ns (setL (Str.ofString "texts") (.r tx) []))) an (.dS [])) dx (.ns (setL (Str.ofString "atom_numbers") (.r an) (setL (Str.ofString "texts") (.r tx) [])))) fl (.list [])) dx
      (.ns (setL (Str.ofString "functors") (.r fl) (setL (Str.ofString "atom_numbers") (.r an) (setL (Str.ofString "texts") (.r tx) []))))) fn (.dT [])) dx
      (.ns (setL (Str.ofString "functor_numbers") (.r fn) (setL (Str.ofString "functors") (.r fl) (setL (Str.ofString "atom_numbers") (.r an) (setL (Str.ofString "texts") (.r tx) [])))))) := ⟨_, rfl⟩
  have Y : Sym σ₁ ⟨x, dx, tx, an, fl, fn⟩ [] 0 := by
    refine ⟨?_, ?_, ⟨[], ?_, Nat.le_refl _⟩, ⟨[], ?_, Nat.le_refl _, ?_⟩, ?_, Nat.le_refl _, ⟨[], ?_, Nat.le_refl _, ?_⟩, t4.symm⟩
    · rw [hσ₁, setH_ne hne, setH_ne x4.symm, setH_ne hne, setH_ne x3.symm, setH_ne hne, setH_ne x2.symm, setH_ne hne, setH_ne x1.symm]; exact ix
    · rw [hσ₁, setH_self]
      simp only [setL, ofString_inj, String.reduceEq, if_true, if_false]
    · rw [hσ₁, setH_ne d1, setH_ne t7.symm, setH_ne d1, setH_ne t4.symm, setH_ne d1, setH_ne t2.symm, setH_ne d1]; exact setH_self
    · rw [hσ₁, setH_ne d2, setH_ne t6.symm, setH_ne d2, setH_ne t3.symm, setH_ne d2]; exact setH_self
    · intro k pv e; simp [lkD] at e
    · rw [hσ₁, setH_ne d3, setH_ne t5.symm, setH_ne d3]; exact setH_self
    · rw [hσ₁, setH_ne d5]; exact setH_self
    · intro k r pv e; simp [lkD] at e
  have E₁ : Ext [] σ σ₁ := by
    rw [hσ₁]
    exact (((((((E0.setNew (n0 htx)).setNew hdx).setNew (n0 han)).setNew hdx).setNew (n0 hfl)).setNew hdx).setNew (n0 hfn)).setNew hdx
  rw [← hσ₁]
  have hS : ∀ b ∈ (⟨x, dx, tx, an, fl, fn⟩ : SA).S, σ b = none := by
    intro b hb
    simp only [SA.S, List.mem_cons, List.not_mem_nil, or_false] at hb
    rcases hb with rfl | rfl | rfl | rfl
    · exact n0 htx
    · exact n0 han
    · exact n0 hfl
    · exact n0 hfn
  obtain ⟨a, ha⟩ : ∃ a : SA, a = ⟨x, dx, tx, an, fl, fn⟩ := ⟨_, rfl⟩
  have hxa : x = a.y := by rw [ha]
  rw [← ha] at Y hS
  subst hxa
  clear ha hσ₁ n0 ns3 ns2 ns1 ns ix E0 htx han hfl hfn
  k_extra "w"
  refine Ex1_cut (fun l σ' => LocLe [(Str.ofString "self", .r a.y)] l ∧ Sym σ' a [] 100 ∧ Ext [] σ σ') ?_ ?_
  · ((with_reducible refine' Ex1_For ?z28o ?z28h ?z28s); (case z28o => assumption); (case z28s => (intro _; rfl)))
    k_extra "g"
    k_extra "w"
    refine (F_fixed_atoms G fun ds hdz hds => ?_).fn.up (by decide)
    obtain ⟨J, hJ⟩ : ∃ J : Nat → Loc → Hp → Prop, ∀ i l σ', J i l σ' ↔ (LocLe [(Str.ofString "self", .r a.y)] l ∧ i ≤ 100 ∧ Sym σ' a [] i ∧ Ext [] σ σ') := ⟨_, fun _ _ _ => Iff.rfl⟩
    refine ⟨ds.map .d, J, (hJ _ _ _).mpr ⟨by k_extra "lle", by lia, Y, E₁⟩, fun i l σ' hj => rfl, ?_, ?_⟩
    · intro i l σ' v hv hj
      obtain ⟨hl, hi, Y', E'⟩ := (hJ _ _ _).mp hj
      refine Tg.weak hl ?_
      obtain ⟨d, hd, rfl⟩ := map_get hv
      have hlt := (List.getElem?_eq_some_iff.mp hd).1
      obtain ⟨t, rfl⟩ := hds d (List.mem_of_getElem? hd)
      have ix' := Y'.ix
      have ns' := Y'.ns
      k_extra "w"
      ((with_reducible refine' k_CallM ?z29o ?z29h ?z29e ?z29p); (case z29o => assumption); (case z29e => rfl); (case z29p => kernel_rfl))
      k_extra "w"
      refine ⟨_, _, _, _, 184, rfl, ix', ns', by k_extra "lk", by kernel_rfl, by kernel_rfl, by kernel_rfl, by kernel_rfl, ?_⟩
      k_extra "w"
      refine (F_atom G Y' (by lia) fun σ₂ n₂ Y₂ E₂ => ?_).fn.up (by decide)
      refine ⟨trivial, ?_⟩
      k_extra "w"
      exact (hJ _ _ _).mpr ⟨by k_extra "lle", by lia, Y₂, ((E'.mono (by simp)).trans E₂).nil hS⟩
    · intro l σ' hj
      obtain ⟨hl, hi, Y', E'⟩ := (hJ _ _ _).mp hj
      rw [List.length_map] at Y' hi
      exact ⟨rfl, hl, Y'.mono hi, E'⟩
  rintro l σ₂ ⟨hl, Y₂, E₂⟩
  refine Mine.Ex.weak hl ?_
  k_extra "1"
  refine Ex1_cut (fun l σ' => ∃ F, Sym σ' a F 400 ∧ Ext [] σ σ') ?_ ?_
  · ((with_reducible refine' Ex1_For ?z30o ?z30h ?z30s); (case z30o => assumption); (case z30s => (intro _; rfl)))
    k_extra "g"
    k_extra "w"
    refine (F_fixed_functors G fun ds hdz hds => ?_).fn.up (by decide)
    obtain ⟨J, hJ⟩ : ∃ J : Nat → Loc → Hp → Prop, ∀ i l σ', J i l σ' ↔ (LocLe [(Str.ofString "self", .r a.y)] l ∧ i ≤ 100 ∧ ∃ F, Sym σ' a F (100 + 2 * i) ∧ Ext [] σ σ') := ⟨_, fun _ _ _ => Iff.rfl⟩
    refine ⟨ds.map .d, J, (hJ _ _ _).mpr ⟨by k_extra "lle", by lia, [], Y₂, E₂⟩, fun i l σ' hj => rfl, ?_, ?_⟩
    · intro i l σ' v hv hj
      obtain ⟨hl, hi, F₃, Y', E'⟩ := (hJ _ _ _).mp hj
      refine Tg.weak hl ?_
      obtain ⟨d, hd, rfl⟩ := map_get hv
      have hlt := (List.getElem?_eq_some_iff.mp hd).1
      obtain ⟨t, k, rfl⟩ := hds d (List.mem_of_getElem? hd)
      have ix' := Y'.ix
      have ns' := Y'.ns
      k_extra "w"
      ((with_reducible refine' k_CallM ?z31o ?z31h ?z31e ?z31p); (case z31o => assumption); (case z31e => rfl); (case z31p => kernel_rfl))
      k_extra "w"
      refine ⟨_, _, _, _, 205, rfl, ix', ns', by k_extra "lk", by kernel_rfl, by kernel_rfl, by kernel_rfl, by kernel_rfl, ?_⟩
      k_extra "w"
      refine Op2_idxT (by decide) (by decide) (d := .str t) rfl ?_
      k_extra "w"
      refine Op2_idxT (by decide) (by decide) (d := .int k) rfl ?_
      k_extra "w"
      refine (F_func G Y' (by lia) fun σ₂ n₂ F' t' Y₂ _ _ E₂ => ?_).fn
      refine ⟨trivial, ?_⟩
      k_extra "w"
      exact (hJ _ _ _).mpr ⟨by k_extra "lle", by lia, F', Y₂, ((E'.mono (by simp)).trans E₂).nil hS⟩
    · intro l σ' hj
      obtain ⟨hl, hi, F₃, Y', E'⟩ := (hJ _ _ _).mp hj
      rw [List.length_map] at Y' hi
      exact ⟨rfl, F₃, Y'.mono (by lia), E'⟩
  rintro l σ₃ ⟨F₃, Y₃, E₃⟩
  k_extra "w"
  exact ⟨rfl, h σ₃ a F₃ Y₃ E₃ hS⟩
end SSy3
section SSy4
variable {w : World} {base : Heap} {mg mb : Str → Option Value}
-- set_option profiler true
-- set_option profiler.threshold 1000
theorem F_ClauseCode (G : (gx w base mg mb).Ok) {σ : Hp} {f key ins u : PV} {Q} (h : ∀ σ' x dx, σ x = none → σ dx = none → σ' x = some (.inst 271 dx) →
      σ' dx = some (.ns [(Str.ofString "functor", f), (Str.ofString "key", key), (Str.ofString "instrs", ins), (Str.ofString "used", u)]) → Ext [] σ σ' → Q (.r x) σ') : Fn (gx w base mg mb) 2 (.ref 271) [f, key, ins, u] σ Q := by
  refine Fn_cls G (n := 1) (fI := 268) (by kernel_rfl) (by kernel_rfl) (by kernel_rfl) fun x dx hx hdx hne => ?_
  refine FnC_def G [Str.ofString "self", Str.ofString "functor", Str.ofString "key", Str.ofString "instrs", Str.ofString "used"] (by exact rfl) (by kernel_rfl) (by (intro vs hvs; rcases vs with _ | ⟨a0, _ | ⟨a1, _ | ⟨a2, _ | ⟨a3, _ | ⟨a4, _ | ⟨a5, r⟩⟩⟩⟩⟩⟩ <;> first | (exfalso; simp at hvs; done) | rfl)) (by kernel_rfl) (by decide +kernel) ?_
  intro A F env O hsc
  dsimp only [List.zip, List.zipWith]
  have ix : (setH (setH σ dx (.ns [])) x (.inst 271 dx)) x = some (.inst 271 dx) := setH_self
  have ns : (setH (setH σ dx (.ns [])) x (.inst 271 dx)) dx = some (.ns []) := by rw [setH_ne hne.symm]; exact setH_self
  have E0 : Ext [] σ (setH (setH σ dx (.ns [])) x (.inst 271 dx)) := (Ext.refl.setNew hdx).setNew hx
  generalize setH (setH σ dx (.ns [])) x (.inst 271 dx) = σ₀ at *
  have ix1 : ∀ m, (setH σ₀ dx m) x = some (.inst 271 dx) := fun m => (setH_ne hne).trans ix
  have ix2 : ∀ m m', (setH (setH σ₀ dx m) dx m') x = some (.inst 271 dx) := fun m m' => (setH_ne hne).trans (ix1 m)
  have ix3 : ∀ m m' m'', (setH (setH (setH σ₀ dx m) dx m') dx m'') x = some (.inst 271 dx) := fun m m' m'' => (setH_ne hne).trans (ix2 m m')
  k_extra "w"
  (with_reducible refine' Op2_setAttr ?z33o ?z33ix ?z33ns ?z33hz ?z33hs ?z33hp ?z33ht ?z33hh ?z33h; (case z33o => assumption); (case z33ix => k_extra "sg"); (case z33ns => k_extra "sg"); (case z33hz => exact Nat.le_of_ble_eq_true rfl); (case z33hs => kernel_rfl); (case z33hp => kernel_rfl); (case z33ht => kernel_rfl); (case z33hh => kernel_rfl))
  k_extra "w"
  (with_reducible refine' Op2_setAttr ?z34o ?z34ix ?z34ns ?z34hz ?z34hs ?z34hp ?z34ht ?z34hh ?z34h; (case z34o => assumption); (case z34ix => k_extra "sg"); (case z34ns => k_extra "sg"); (case z34hz => exact Nat.le_of_ble_eq_true rfl); (case z34hs => kernel_rfl); (case z34hp => kernel_rfl); (case z34ht => kernel_rfl); (case z34hh => kernel_rfl))
  k_extra "w"
  (with_reducible refine' Op2_setAttr ?z35o ?z35ix ?z35ns ?z35hz ?z35hs ?z35hp ?z35ht ?z35hh ?z35h; (case z35o => assumption); (case z35ix => k_extra "sg"); (case z35ns => k_extra "sg"); (case z35hz => exact Nat.le_of_ble_eq_true rfl); (case z35hs => kernel_rfl); (case z35hp => kernel_rfl); (case z35ht => kernel_rfl); (case z35hh => kernel_rfl))
  k_extra "w"
  (with_reducible refine' Op2_setAttr ?z36o ?z36ix ?z36ns ?z36hz ?z36hs ?z36hp ?z36ht ?z36hh ?z36h; (case z36o => assumption); (case z36ix => k_extra "sg"); (case z36ns => k_extra "sg"); (case z36hz => exact Nat.le_of_ble_eq_true rfl); (case z36hs => kernel_rfl); (case z36hp => kernel_rfl); (case z36ht => kernel_rfl); (case z36hh => kernel_rfl))
  k_extra "w"
  refine ⟨rfl, h _ x dx hx hdx ((setH_ne hne).trans (ix3 _ _ _)) ?_ ((((E0.setNew hdx).setNew hdx).setNew hdx).setNew hdx)⟩
  rw [setH_self]
  simp only [setL, ofString_inj, String.reduceEq, if_true, if_false]
/-- a list of ints -/
noncomputable abbrev iL (xs : List Int) : MO := .list (xs.map intPV)
theorem F_next (G : (gx w base mg mb).Ok) {σ : Hp} {r : Addr} {xs : List Int} {Q} (hr : σ r = some (iL xs)) (hz : xs.length ≤ 2000) (h : ∀ v ys σ', ys.length ≤ xs.length → σ' r = some (iL ys) → Ext [r] σ σ' → Q (intPV v) σ') : FnC (gx w base mg mb) 1 (.ref 289) [.r r] σ Q := by
  refine FnC_def G [Str.ofString "row"] (by exact rfl) (by kernel_rfl) (by (intro vs hvs; rcases vs with _ | ⟨a0, _ | ⟨a1, _ | ⟨a2, _ | ⟨a3, _ | ⟨a4, _ | ⟨a5, r⟩⟩⟩⟩⟩⟩ <;> first | (exfalso; simp at hvs; done) | rfl)) (by kernel_rfl) (by decide +kernel) ?_
  intro A F env O hsc
  dsimp only [List.zip, List.zipWith]
  k_extra "w"
  refine ⟨Nat.zero_le _, fun e he => ?_⟩
  have hre : r ≠ e := ne_of_some he hr
  refine Op2_neL (xs := xs.map .int) (ys := []) O (by rw [List.map_map]; exact (setH_ne hre).trans hr) setH_self (by intro d hd; obtain ⟨i, _, rfl⟩ := List.mem_map.mp hd; rfl) (by simp) fun b hb => ⟨_, rfl, ?_⟩
  cases b with
  | true =>
    have hne : xs ≠ [] := fun z => by have := hb.mp rfl; rw [z] at this; exact this rfl
    obtain ⟨ys, v, rfl⟩ : ∃ ys v, xs = ys ++ [v] := ⟨xs.dropLast, xs.getLast hne, (List.dropLast_concat_getLast hne).symm⟩
    have hr' : (setH σ e (.list [])) r = some (iL (ys ++ [v])) := (setH_ne hre).trans hr
    k_extra "w"
    ((with_reducible refine' k_CallMB (id := "list.pop") ?z38o ?z38h ?z38e ?z38p); (case z38o => assumption); (case z38e => rfl); (case z38p => kernel_rfl))
    k_extra "w"
    refine ⟨gm_list hr' PySem.F.slot_list_pop PySem.F.type_list_pop, ?_⟩
    k_extra "w"
    refine Fn_pop (xs := ys.map intPV) (x := intPV v) (by rw [hr', iL, List.map_append]; rfl) (by rw [List.length_map]; simp at hz; lia) ?_
    exact h v ys _ (by simp) setH_self ((Ext.refl.new he).setH (by simp))
  | false =>
    k_extra "w"
    exact h 0 xs _ (Nat.le_refl _) ((setH_ne hre).trans hr) (Ext.refl.new he)
theorem fmod_range {a b : Int} (hb : 0 < b) : 0 ≤ a.fmod b ∧ a.fmod b < b := by
  rw [Int.fmod_eq_emod_of_nonneg _ (by lia)]
  exact ⟨Int.emod_nonneg _ (by lia), Int.emod_lt_of_pos _ hb⟩
theorem F_key (G : (gx w base mg mb).Ok) {σ : Hp} {r : Addr} {xs : List Int} {Q} (hr : σ r = some (iL xs)) (hz : xs.length ≤ 2000) (h : ∀ (k : Key) ys σ', ys.length ≤ xs.length → σ' r = some (iL ys) → Ext [r] σ σ' → Q (.d k.toData) σ') : FnC (gx w base mg mb) 2 (.ref 296) [.r r] σ Q := by
  refine FnC_def G [Str.ofString "row"] (by exact rfl) (by kernel_rfl) (by (intro vs hvs; rcases vs with _ | ⟨a0, _ | ⟨a1, _ | ⟨a2, _ | ⟨a3, _ | ⟨a4, _ | ⟨a5, r⟩⟩⟩⟩⟩⟩ <;> first | (exfalso; simp at hvs; done) | rfl)) (by kernel_rfl) (by decide +kernel) ?_
  intro A F env O hsc
  dsimp only [List.zip, List.zipWith]
  k_extra "w"
  k_extra "g"
  k_extra "w"
  refine (F_next G hr hz fun v ys σ₁ hl hr₁ E₁ => ?_).fn
  k_extra "w"
  refine Op2_mod (by decide) ?_
  have hm := fmod_range (a := v) (b := 5) (by decide)
  obtain ⟨kd, hkd⟩ : ∃ kd, kd = v.fmod 5 := ⟨_, rfl⟩
  rw [← hkd] at hm ⊢
  clear hkd
  k_extra "w"
  by_cases h0 : kd = 0
  · (with_reducible refine' Eq.mpr (if_pos ?z40n) ?z40h; (case z40n => ((try simp only [decide_eq_true_eq, Option.map_none, Option.isSome_none, Option.map_some, Option.isSome_some, Bool.false_eq_true, not_false_eq_true, List.length_cons, List.length_map, List.length_nil, Bool.not_eq_true]); first | done | lia | assumption)))
    k_extra "w"
    (first | refine ⟨[_], rfl, Nat.le_of_ble_eq_true rfl, ?_⟩ | refine ⟨[_, _], rfl, Nat.le_of_ble_eq_true rfl, ?_⟩ | refine ⟨[_, _, _], rfl, Nat.le_of_ble_eq_true rfl, ?_⟩ | refine ⟨[_, _, _, _], rfl, Nat.le_of_ble_eq_true rfl, ?_⟩ | refine ⟨[_, _, _, _, _], rfl, Nat.le_of_ble_eq_true rfl, ?_⟩)
    exact h .var ys σ₁ hl hr₁ E₁
  (with_reducible refine' Eq.mpr (if_neg ?z42n) ?z42h; (case z42n => ((try simp only [decide_eq_true_eq, Option.map_none, Option.isSome_none, Option.map_some, Option.isSome_some, Bool.false_eq_true, not_false_eq_true, List.length_cons, List.length_map, List.length_nil, Bool.not_eq_true]); first | done | lia | assumption)))
  k_extra "w"
  by_cases h3 : kd = 3
  · (with_reducible refine' Eq.mpr (if_pos ?z43n) ?z43h; (case z43n => ((try simp only [decide_eq_true_eq, Option.map_none, Option.isSome_none, Option.map_some, Option.isSome_some, Bool.false_eq_true, not_false_eq_true, List.length_cons, List.length_map, List.length_nil, Bool.not_eq_true]); first | done | lia | assumption)))
    k_extra "w"
    (first | refine ⟨[_], rfl, Nat.le_of_ble_eq_true rfl, ?_⟩ | refine ⟨[_, _], rfl, Nat.le_of_ble_eq_true rfl, ?_⟩ | refine ⟨[_, _, _], rfl, Nat.le_of_ble_eq_true rfl, ?_⟩ | refine ⟨[_, _, _, _], rfl, Nat.le_of_ble_eq_true rfl, ?_⟩ | refine ⟨[_, _, _, _, _], rfl, Nat.le_of_ble_eq_true rfl, ?_⟩)
    exact h .list ys σ₁ hl hr₁ E₁
  (with_reducible refine' Eq.mpr (if_neg ?z45n) ?z45h; (case z45n => ((try simp only [decide_eq_true_eq, Option.map_none, Option.isSome_none, Option.map_some, Option.isSome_some, Bool.false_eq_true, not_false_eq_true, List.length_cons, List.length_map, List.length_nil, Bool.not_eq_true]); first | done | lia | assumption)))
  k_extra "w"
  by_cases h4 : kd = 4
  · (with_reducible refine' Eq.mpr (if_pos ?z46n) ?z46h; (case z46n => ((try simp only [decide_eq_true_eq, Option.map_none, Option.isSome_none, Option.map_some, Option.isSome_some, Bool.false_eq_true, not_false_eq_true, List.length_cons, List.length_map, List.length_nil, Bool.not_eq_true]); first | done | lia | assumption)))
    k_extra "w"
    refine ⟨Nat.le_of_ble_eq_true rfl, fun a ha => ?_⟩
    have hra : r ≠ a := ne_of_some ha hr₁
    k_extra "w"
    k_extra "g"
    k_extra "w"
    refine (F_next G ((setH_ne hra).trans hr₁) (by lia) fun v2 ys2 σ₂ hl2 hr₂ E₂ => ?_).fn
    k_extra "w"
    refine Op2_mod (by decide) ?_
    have hm2 := fmod_range (a := v2) (b := 3) (by decide)
    have ha2 := E₂ a _ (by simp [hra.symm]) setH_self
    obtain ⟨j, hj⟩ : ∃ j, j = v2.fmod 3 := ⟨_, rfl⟩
    rw [← hj] at hm2 ⊢
    clear hj
    obtain ⟨n, hn, hn3⟩ : ∃ n : Int, ([PV.d (.int 12), .d (.int 13), .d (.int 14)] : List PV)[j.toNat]? = some (intPV n) ∧ True := by
      have : j = 0 ∨ j = 1 ∨ j = 2 := by lia
      rcases this with rfl | rfl | rfl
      · exact ⟨12, rfl, trivial⟩
      · exact ⟨13, rfl, trivial⟩
      · exact ⟨14, rfl, trivial⟩
    refine Op2_idxL ha2 hm2.1 (by lia) hn ?_
    k_extra "w"
    (first | refine ⟨[_], rfl, Nat.le_of_ble_eq_true rfl, ?_⟩ | refine ⟨[_, _], rfl, Nat.le_of_ble_eq_true rfl, ?_⟩ | refine ⟨[_, _, _], rfl, Nat.le_of_ble_eq_true rfl, ?_⟩ | refine ⟨[_, _, _, _], rfl, Nat.le_of_ble_eq_true rfl, ?_⟩ | refine ⟨[_, _, _, _, _], rfl, Nat.le_of_ble_eq_true rfl, ?_⟩)
    exact h (.struct n) ys2 σ₂ (by lia) hr₂ ((E₁.new ha).trans E₂)
  · (with_reducible refine' Eq.mpr (if_neg ?z48n) ?z48h; (case z48n => ((try simp only [decide_eq_true_eq, Option.map_none, Option.isSome_none, Option.map_some, Option.isSome_some, Bool.false_eq_true, not_false_eq_true, List.length_cons, List.length_map, List.length_nil, Bool.not_eq_true]); first | done | lia | assumption)))
    k_extra "w"
    refine ⟨Nat.le_of_ble_eq_true rfl, fun a ha => ?_⟩
    have hra : r ≠ a := ne_of_some ha hr₁
    k_extra "w"
    obtain ⟨n, hn⟩ : ∃ n : Int, ([PV.d (.int 4), .d (.int 5)] : List PV)[(kd - 1).toNat]? = some (intPV n) := by
      have : kd = 1 ∨ kd = 2 := by lia
      rcases this with rfl | rfl
      · exact ⟨4, rfl⟩
      · exact ⟨5, rfl⟩
    refine Op2_idxL setH_self (by lia) (by lia) hn ?_
    k_extra "w"
    refine Op2_pow (by decide) (by decide) (by decide) ?_
    k_extra "w"
    refine ⟨Nat.le_of_ble_eq_true rfl, fun c hc => ?_⟩
    have hr₁' := (setH_ne (mo := .list [.d (.int 4), .d (.int 5)]) hra).trans hr₁
    have hrc : r ≠ c := ne_of_some hc hr₁'
    k_extra "w"
    k_extra "g"
    k_extra "w"
    refine (F_next G ((setH_ne hrc).trans hr₁') (by lia) fun v2 ys2 σ₂ hl2 hr₂ E₂ => ?_).fn
    k_extra "w"
    refine Op2_mod (by decide) ?_
    have hm2 := fmod_range (a := v2) (b := 4) (by decide)
    have hc2 := E₂ c _ (by simp [hrc.symm]) setH_self
    obtain ⟨j, hj⟩ : ∃ j, j = v2.fmod 4 := ⟨_, rfl⟩
    rw [← hj] at hm2 ⊢
    clear hj
    obtain ⟨n2, hn2⟩ : ∃ n : Int, ([PV.d (.int 0), .d (.int 1), .d (.int 2), .d (.int (10 ^ (30 : Int).toNat))] : List PV)[j.toNat]? = some (intPV n) := by
      have : j = 0 ∨ j = 1 ∨ j = 2 ∨ j = 3 := by lia
      rcases this with rfl | rfl | rfl | rfl
      · exact ⟨0, rfl⟩
      · exact ⟨1, rfl⟩
      · exact ⟨2, rfl⟩
      · exact ⟨_, rfl⟩
    refine Op2_idxL hc2 hm2.1 (by lia) hn2 ?_
    k_extra "w"
    (first | refine ⟨[_], rfl, Nat.le_of_ble_eq_true rfl, ?_⟩ | refine ⟨[_, _], rfl, Nat.le_of_ble_eq_true rfl, ?_⟩ | refine ⟨[_, _, _], rfl, Nat.le_of_ble_eq_true rfl, ?_⟩ | refine ⟨[_, _, _, _], rfl, Nat.le_of_ble_eq_true rfl, ?_⟩ | refine ⟨[_, _, _, _, _], rfl, Nat.le_of_ble_eq_true rfl, ?_⟩)
    k_extra "w"
    (first | refine ⟨[_], rfl, Nat.le_of_ble_eq_true rfl, ?_⟩ | refine ⟨[_, _], rfl, Nat.le_of_ble_eq_true rfl, ?_⟩ | refine ⟨[_, _, _], rfl, Nat.le_of_ble_eq_true rfl, ?_⟩ | refine ⟨[_, _, _, _], rfl, Nat.le_of_ble_eq_true rfl, ?_⟩ | refine ⟨[_, _, _, _, _], rfl, Nat.le_of_ble_eq_true rfl, ?_⟩)
    exact h (.const n n2) ys2 σ₂ (by lia) hr₂ (((E₁.new ha).new hc).trans E₂)
theorem F_matches (G : (gx w base mg mb).Ok) {a c : Key} {σ : Hp} {Q} (h : Q (.d (.bool (matchK a c))) σ) : FnC (gx w base mg mb) 1 (.ref 303) [.d a.toData, .d c.toData] σ Q := by
  refine FnC_def G [Str.ofString "key", Str.ofString "other"] (by exact rfl) (by kernel_rfl) (by (intro vs hvs; rcases vs with _ | ⟨a0, _ | ⟨a1, _ | ⟨a2, _ | ⟨a3, _ | ⟨a4, _ | ⟨a5, r⟩⟩⟩⟩⟩⟩ <;> first | (exfalso; simp at hvs; done) | rfl)) (by kernel_rfl) (by decide +kernel) ?_
  intro A F env O hsc
  dsimp only [List.zip, List.zipWith]
  k_extra "w"
  (first | refine ⟨[_], rfl, Nat.le_of_ble_eq_true rfl, ?_⟩ | refine ⟨[_, _], rfl, Nat.le_of_ble_eq_true rfl, ?_⟩ | refine ⟨[_, _, _], rfl, Nat.le_of_ble_eq_true rfl, ?_⟩ | refine ⟨[_, _, _, _], rfl, Nat.le_of_ble_eq_true rfl, ?_⟩ | refine ⟨[_, _, _, _, _], rfl, Nat.le_of_ble_eq_true rfl, ?_⟩)
  refine Op2_eq O a.nice Key.var.nice fun b hb => ⟨b, rfl, ?_⟩
  have hb1 : b = true ↔ a = .var := by rw [hb, show PyData.tuple [sv "var"] = Key.var.toData from rfl, Key.inj]
  have fin : ∀ b : Bool, (b = true ↔ (a = .var ∨ c = .var ∨ a = c)) → Q (.d (.bool b)) σ := fun b hb => by
    have : b = matchK a c := by
      rw [Bool.eq_iff_iff, hb]
      simp only [matchK, Bool.or_eq_true, decide_eq_true_eq, or_assoc]
    rw [this]; exact h
  cases b with
  | true =>
    k_extra "w"
    exact fin true ⟨fun _ => .inl (hb1.mp rfl), fun _ => rfl⟩
  | false =>
    k_extra "w"
    (first | refine ⟨[_], rfl, Nat.le_of_ble_eq_true rfl, ?_⟩ | refine ⟨[_, _], rfl, Nat.le_of_ble_eq_true rfl, ?_⟩ | refine ⟨[_, _, _], rfl, Nat.le_of_ble_eq_true rfl, ?_⟩ | refine ⟨[_, _, _, _], rfl, Nat.le_of_ble_eq_true rfl, ?_⟩ | refine ⟨[_, _, _, _, _], rfl, Nat.le_of_ble_eq_true rfl, ?_⟩)
    refine Op2_eq O c.nice Key.var.nice fun b hb => ⟨b, rfl, ?_⟩
    have hb2 : b = true ↔ c = .var := by rw [hb, show PyData.tuple [sv "var"] = Key.var.toData from rfl, Key.inj]
    cases b with
    | true =>
      k_extra "w"
      exact fin true ⟨fun _ => .inr (.inl (hb2.mp rfl)), fun _ => rfl⟩
    | false =>
      k_extra "w"
      refine Op2_eq O a.nice c.nice fun b hb => fin b ?_
      rw [hb, Key.inj]
      refine ⟨fun z => .inr (.inr z), fun z => ?_⟩
      rcases z with z | z | z
      · exact absurd (hb1.mpr z) (by decide)
      · exact absurd (hb2.mpr z) (by decide)
      · exact z
end SSy4
section SSp2
variable {w : World} {base : Heap} {mg mb : Str → Option Value}
-- set_option profiler true
-- set_option profiler.threshold 300
theorem F_fresh (G : (gx w base mg mb).Ok) {σ : Hp} {b : BA} {s : BS} {Q} (B : Bld σ b s) (h : ∀ σ', Bld σ' b { s with next := s.next + 1 } → Ext b.S σ σ' → Q (intPV s.next) σ') : FnC (gx w base mg mb) 1 (.ref 58) [.r b.x] σ Q := by
  refine FnC_def G [Str.ofString "self"] (by exact rfl) (by kernel_rfl) (by (intro vs hvs; rcases vs with _ | ⟨a0, _ | ⟨a1, _ | ⟨a2, _ | ⟨a3, _ | ⟨a4, _ | ⟨a5, r⟩⟩⟩⟩⟩⟩ <;> first | (exfalso; simp at hvs; done) | rfl)) (by kernel_rfl) (by decide +kernel) ?_
  intro A F env O hsc
  dsimp only [List.zip, List.zipWith]
  have ix := B.ix
  have ns := B.ns
  k_extra "w"
  (with_reducible refine' Op1_attr ?z55o ?z55ix ?z55ns ?z55lk ?z55hg ?z55hh ?z55ha ?z55h; (case z55o => assumption); (case z55ix => k_extra "sg"); (case z55ns => k_extra "sg"); (case z55lk => k_extra "lk"); (case z55hg => kernel_rfl); (case z55hh => kernel_rfl); (case z55ha => kernel_rfl))
  k_extra "w"
  (with_reducible refine' Op2_setAttr ?z56o ?z56ix ?z56ns ?z56hz ?z56hs ?z56hp ?z56ht ?z56hh ?z56h; (case z56o => assumption); (case z56ix => k_extra "sg"); (case z56ns => k_extra "sg"); (case z56hz => exact Nat.le_of_ble_eq_true rfl); (case z56hs => kernel_rfl); (case z56hp => kernel_rfl); (case z56ht => kernel_rfl); (case z56hh => kernel_rfl))
  k_extra "w"
  rw [setL_next]
  exact h _ B.setNs (Ext.refl.setH (by simp [BA.S]))
theorem F_chain_rows (G : (gx w base mg mb).Ok) {σ : Hp} {b : BA} {s : BS} {pv : PV} {xs : List Int} {Q} (B : Bld σ b s) (hs : SeqIs σ pv xs) (h2 : 2 ≤ xs.length) (hz : xs.length ≤ 1000)
    (h : ∀ r, σ r = none → Q (.r r) (setH σ r (.list ((chainRows s.ar xs).map insPV)))) : FnC (gx w base mg mb) 1 (.ref 65) [.r b.x, pv] σ Q := by
  refine FnC_def G [Str.ofString "self", Str.ofString "labels"] (by exact rfl) (by kernel_rfl) (by (intro vs hvs; rcases vs with _ | ⟨a0, _ | ⟨a1, _ | ⟨a2, _ | ⟨a3, _ | ⟨a4, _ | ⟨a5, r⟩⟩⟩⟩⟩⟩ <;> first | (exfalso; simp at hvs; done) | rfl)) (by kernel_rfl) (by decide +kernel) ?_
  intro A F env O hsc
  dsimp only [List.zip, List.zipWith]
  have ix := B.ix
  have ns := B.ns
  obtain ⟨x0, xr, rfl⟩ : ∃ x0 xr, xs = x0 :: xr := by
    cases xs with
    | nil => simp at h2
    | cons a b => exact ⟨_, _, rfl⟩
  k_extra "w"
  refine Op2_idxSeq hs (by decide) (by decide) (v := x0) rfl ?_
  k_extra "w"
  (with_reducible refine' Op1_attr ?z58o ?z58ix ?z58ns ?z58lk ?z58hg ?z58hh ?z58ha ?z58h; (case z58o => assumption); (case z58ix => k_extra "sg"); (case z58ns => k_extra "sg"); (case z58lk => k_extra "lk"); (case z58hg => kernel_rfl); (case z58hh => kernel_rfl); (case z58ha => kernel_rfl))
  k_extra "w"
  (first | refine ⟨[_], rfl, Nat.le_of_ble_eq_true rfl, ?_⟩ | refine ⟨[_, _], rfl, Nat.le_of_ble_eq_true rfl, ?_⟩ | refine ⟨[_, _, _], rfl, Nat.le_of_ble_eq_true rfl, ?_⟩ | refine ⟨[_, _, _, _], rfl, Nat.le_of_ble_eq_true rfl, ?_⟩ | refine ⟨[_, _, _, _, _], rfl, Nat.le_of_ble_eq_true rfl, ?_⟩)
  k_extra "w"
  refine ⟨Nat.le_of_ble_eq_true rfl, fun r hr => ?_⟩
  have hs' : SeqIs (setH σ r (.list [.d (.tuple [sv "try", .int x0, .int s.ar])])) pv (x0 :: xr) := by
    cases pv with
    | r a => exact setH_new hr hs
    | rng a b => exact hs
    | d d => cases d <;> exact hs
  k_extra "w"
  k_extra "g"
  k_extra "w"
  refine Fn_lenSeq hs' (by lia) ?_
  k_extra "w"
  ((with_reducible refine' Ex1_For ?z60o ?z60h ?z60s); (case z60o => assumption); (case z60s => (intro _; rfl)))
  k_extra "g"
  k_extra "w"
  obtain ⟨J, hJ⟩ : ∃ J : Nat → Loc → Hp → Prop, ∀ i l σ', J i l σ' ↔ (LocLe [(Str.ofString "self", .r b.x), (Str.ofString "labels", pv), (Str.ofString "rows", .r r), (Str.ofString "last", intPV (((x0 :: xr).length : Nat) - 1))] l ∧
    σ' = setH σ r (.list ((Ins.try_ x0 s.ar :: (xr.take i).map .retry).map insPV))) := ⟨_, fun _ _ _ => Iff.rfl⟩
  refine Fn_range2 ⟨(upto 1 (((x0 :: xr).length : Nat) - 1)).map fun i => .d (.int i), J, (hJ _ _ _).mpr ⟨?_, rfl⟩, fun i l σ' _ => ?_, ?_, ?_⟩
  · k_extra "lle"
  · have h9 : (((x0 :: xr).length : Nat) : Int) ≤ 1000 := by lia
    exact items_rng (by lia) (by lia) (by lia) (by lia)
  · intro i l σ' v hv hj
    obtain ⟨hl, rfl⟩ := (hJ _ _ _).mp hj
    refine Tg.weak hl ?_
    obtain ⟨rfl, hi⟩ := upto_get hv
    have hlt : i < xr.length := by simp only [List.length_cons] at hi; lia
    k_extra "w"
    have hs2 : ∀ xs, SeqIs (setH σ r (.list xs)) pv (x0 :: xr) := fun xs => by
      cases pv with
      | r a => exact setH_new hr hs
      | rng a b => exact hs
      | d d => cases d <;> exact hs
    refine Op2_idxSeq (hs2 _) (by lia) (by simp only [List.length_cons] at hz; lia) (v := xr[i]) ?_ ?_
    · rw [show (1 + (i : Int)).toNat = i + 1 by lia]; simp [hlt]
    k_extra "w"
    (first | refine ⟨[_], rfl, Nat.le_of_ble_eq_true rfl, ?_⟩ | refine ⟨[_, _], rfl, Nat.le_of_ble_eq_true rfl, ?_⟩ | refine ⟨[_, _, _], rfl, Nat.le_of_ble_eq_true rfl, ?_⟩ | refine ⟨[_, _, _, _], rfl, Nat.le_of_ble_eq_true rfl, ?_⟩ | refine ⟨[_, _, _, _, _], rfl, Nat.le_of_ble_eq_true rfl, ?_⟩)
    refine ⟨_, setH_self, ?_, ?_⟩
    · simp only [List.length_map, List.length_cons, List.length_take]; simp only [List.length_cons] at hz; lia
    k_extra "w"
    refine (hJ _ _ _).mpr ⟨by k_extra "lle", ?_⟩
    rw [setH_setH, take_succ' (show xr[i]? = some xr[i] by simp [hlt]), List.map_append, ← List.cons_append, List.map_append]
    rfl
  · intro l σ' hj
    obtain ⟨hl, rfl⟩ := (hJ _ _ _).mp hj
    refine Ex.weak hl ?_
    have hs2 : ∀ xs, SeqIs (setH σ r (.list xs)) pv (x0 :: xr) := fun xs => by
      cases pv with
      | r a => exact setH_new hr hs
      | rng a b => exact hs
      | d d => cases d <;> exact hs
    simp only [List.length_cons] at h2 hz
    k_extra "w"
    refine Op2_idxSeq (hs2 _) (by simp only [List.length_cons]; lia) (by simp only [List.length_cons]; lia) (v := (x0 :: xr).getLastD 0) ?_ ?_
    · rw [show ((((x0 :: xr).length : Nat) : Int) - 1).toNat = xr.length by simp only [List.length_cons]; lia]
      cases xr with
      | nil => simp at h2
      | cons y yr => rw [← List.getLast_eq_getLastD (l := x0 :: y :: yr) (by simp), List.getLast_eq_getElem, List.getElem?_eq_getElem (by simp)]; simp
    k_extra "w"
    (first | refine ⟨[_], rfl, Nat.le_of_ble_eq_true rfl, ?_⟩ | refine ⟨[_, _], rfl, Nat.le_of_ble_eq_true rfl, ?_⟩ | refine ⟨[_, _, _], rfl, Nat.le_of_ble_eq_true rfl, ?_⟩ | refine ⟨[_, _, _, _], rfl, Nat.le_of_ble_eq_true rfl, ?_⟩ | refine ⟨[_, _, _, _, _], rfl, Nat.le_of_ble_eq_true rfl, ?_⟩)
    refine ⟨_, setH_self, ?_, ?_⟩
    · simp only [List.length_map, List.length_cons, List.length_take]; lia
    k_extra "w"
    rw [setH_setH, upto_len]
    have e : xr.take ((((x0 :: xr).length : Nat) : Int) - 1 - 1).toNat = xr.dropLast := by
      rw [List.dropLast_eq_take, show ((((x0 :: xr).length : Nat) : Int) - 1 - 1).toNat = xr.length - 1 by simp only [List.length_cons]; lia]
    rw [e]
    have := h r hr
    simpa [chainRows, Ins.toData, insPV, Function.comp_def] using this
end SSp2
section SSp3
variable {w : World} {base : Heap} {mg mb : Str → Option Value}
-- set_option profiler true
-- set_option profiler.threshold 1000
theorem lkD_known {ps : List Int} : ∀ {k : List (List Int × Int)}, lkD ps (k.map knownPV) = (k.find? (fun q => q.1 = ps)).map fun q => intPV q.2
  | [] => rfl
  | q :: k => by
    simp only [List.map_cons, knownPV, lkD, List.find?_cons]
    by_cases h : q.1 = ps
    · simp [h]
    · simp only [h, if_false, decide_false]; exact lkD_known
theorem F_chain (G : (gx w base mg mb).Ok) {σ : Hp} {b : BA} {s : BS} {pl : Addr} {ps : List Int} {Q} (B : Bld σ b s) (hp : σ pl = some (.list (ps.map intPV))) (hz : ps.length ≤ 1000) (hk : s.known.length ≤ 1000) (hc : s.chains.length ≤ 1000)
    (h : ∀ σ', Bld σ' b (chainF s ps).2 → Ext b.S σ σ' → Q (intPV (chainF s ps).1) σ') : FnC (gx w base mg mb) 2 (.ref 72) [.r b.x, .r pl] σ Q := by
  refine FnC_def G [Str.ofString "self", Str.ofString "places"] (by exact rfl) (by kernel_rfl) (by (intro vs hvs; rcases vs with _ | ⟨a0, _ | ⟨a1, _ | ⟨a2, _ | ⟨a3, _ | ⟨a4, _ | ⟨a5, r⟩⟩⟩⟩⟩⟩ <;> first | (exfalso; simp at hvs; done) | rfl)) (by kernel_rfl) (by decide +kernel) ?_
  intro A F env O hsc
  dsimp only [List.zip, List.zipWith]
  have ix := B.ix
  have ns := B.ns
  have kn := B.kn
  k_extra "w"
  k_extra "g"
  k_extra "w"
  refine Fn_len hp (by rw [List.length_map]; lia) ?_
  k_extra "w"
  match ps, h with
  | [], h =>
    k_extra "w"
    exact h σ B Ext.refl
  | [p], h =>
    (with_reducible refine' Eq.mpr (if_neg ?z64n) ?z64h; (case z64n => ((try simp only [decide_eq_true_eq, Option.map_none, Option.isSome_none, Option.map_some, Option.isSome_some, Bool.false_eq_true, not_false_eq_true, List.length_cons, List.length_map, List.length_nil, Bool.not_eq_true]); first | done | lia | assumption)))
    k_extra "w"
    k_extra "g"
    k_extra "w"
    refine Fn_len hp (Nat.le_of_ble_eq_true rfl) ?_
    k_extra "w"
    refine Op2_idxL hp (by decide) (by decide) rfl ?_
    exact h σ B Ext.refl
  | p :: q :: ps, h =>
    (with_reducible refine' Eq.mpr (if_neg ?z65n) ?z65h; (case z65n => ((try simp only [decide_eq_true_eq, Option.map_none, Option.isSome_none, Option.map_some, Option.isSome_some, Bool.false_eq_true, not_false_eq_true, List.length_cons, List.length_map, List.length_nil, Bool.not_eq_true]); first | done | lia | assumption)))
    k_extra "w"
    k_extra "g"
    k_extra "w"
    refine Fn_len hp (by rw [List.length_map]; lia) ?_
    k_extra "w"
    (with_reducible refine' Eq.mpr (if_neg ?z66n) ?z66h; (case z66n => ((try simp only [decide_eq_true_eq, Option.map_none, Option.isSome_none, Option.map_some, Option.isSome_some, Bool.false_eq_true, not_false_eq_true, List.length_cons, List.length_map, List.length_nil, Bool.not_eq_true]); first | done | lia | assumption)))
    k_extra "w"
    k_extra "g"
    k_extra "w"
    refine Fn_tuple (ds := (p :: q :: ps).map .int) (by rw [List.map_map]; exact hp) (by rw [List.length_map]; lia) ?_
    k_extra "w"
    (with_reducible refine' Op1_attr ?z67o ?z67ix ?z67ns ?z67lk ?z67hg ?z67hh ?z67ha ?z67h; (case z67o => assumption); (case z67ix => k_extra "sg"); (case z67ns => k_extra "sg"); (case z67lk => k_extra "lk"); (case z67hg => kernel_rfl); (case z67hh => kernel_rfl); (case z67ha => kernel_rfl))
    refine Op2_inDT (by assumption) kn ⟨_, rfl, ?_⟩
    rw [lkD_known]
    cases hf : s.known.find? (fun r => r.1 = p :: q :: ps) with
    | some r =>
      k_extra "w"
      (with_reducible refine' Op1_attr ?z68o ?z68ix ?z68ns ?z68lk ?z68hg ?z68hh ?z68ha ?z68h; (case z68o => assumption); (case z68ix => k_extra "sg"); (case z68ns => k_extra "sg"); (case z68lk => k_extra "lk"); (case z68hg => kernel_rfl); (case z68hh => kernel_rfl); (case z68ha => kernel_rfl))
      k_extra "w"
      refine Op2_idxDT (by assumption) kn (k := p :: q :: ps) (by rw [lkD_known, hf]; rfl) ?_
      have := h σ
      simp only [chainF, hf] at this
      exact this B Ext.refl
    | none =>
      (with_reducible refine' Eq.mpr (if_neg ?z69n) ?z69h; (case z69n => ((try simp only [decide_eq_true_eq, Option.map_none, Option.isSome_none, Option.map_some, Option.isSome_some, Bool.false_eq_true, not_false_eq_true, List.length_cons, List.length_map, List.length_nil, Bool.not_eq_true]); first | done | lia | assumption)))
      k_extra "w"
      ((with_reducible refine' k_CallM ?z70o ?z70h ?z70e ?z70p); (case z70o => assumption); (case z70e => rfl); (case z70p => kernel_rfl))
      k_extra "w"
      refine ⟨_, _, _, _, 58, rfl, ix, ns, by k_extra "lk", by kernel_rfl, by kernel_rfl, by kernel_rfl, by kernel_rfl, ?_⟩
      k_extra "w"
      refine (F_fresh G B fun σ₁ B₁ E₁ => ?_).fn
      have ix := B₁.ix
      have ns := B₁.ns
      have kn := B₁.kn
      k_extra "w"
      (with_reducible refine' Op1_attr ?z71o ?z71ix ?z71ns ?z71lk ?z71hg ?z71hh ?z71ha ?z71h; (case z71o => assumption); (case z71ix => k_extra "sg"); (case z71ns => k_extra "sg"); (case z71lk => k_extra "lk"); (case z71hg => kernel_rfl); (case z71hh => kernel_rfl); (case z71ha => kernel_rfl))
      k_extra "w"
      refine Op3_setDT (by assumption) kn (k := p :: q :: ps) (by rw [List.length_map]; exact Nat.le_trans hk (by lia)) ?_
      have hn : (lkD (p :: q :: ps) (s.known.map knownPV)).isSome = false := by rw [lkD_known, hf]; rfl
      have e : stD (p :: q :: ps) (intPV s.next) (s.known.map knownPV) = (s.known ++ [(p :: q :: ps, s.next)]).map knownPV := by
        unfold stD
        rw [hn, List.map_append]; rfl
      have B₂ := B₁.setKn e
      have ix := B₂.ix
      have ns := B₂.ns
      have ch := B₂.ch
      k_extra "w"
      (with_reducible refine' Op1_attr ?z72o ?z72ix ?z72ns ?z72lk ?z72hg ?z72hh ?z72ha ?z72h; (case z72o => assumption); (case z72ix => k_extra "sg"); (case z72ns => k_extra "sg"); (case z72lk => k_extra "lk"); (case z72hg => kernel_rfl); (case z72hh => kernel_rfl); (case z72ha => kernel_rfl))
      refine ⟨_, _, rfl, ch, ?_⟩
      k_extra "w"
      (first | refine ⟨[_], rfl, Nat.le_of_ble_eq_true rfl, ?_⟩ | refine ⟨[_, _], rfl, Nat.le_of_ble_eq_true rfl, ?_⟩ | refine ⟨[_, _, _], rfl, Nat.le_of_ble_eq_true rfl, ?_⟩ | refine ⟨[_, _, _, _], rfl, Nat.le_of_ble_eq_true rfl, ?_⟩ | refine ⟨[_, _, _, _, _], rfl, Nat.le_of_ble_eq_true rfl, ?_⟩)
      refine ⟨_, ch, by rw [List.length_map]; exact Nat.le_trans hc (by lia), ?_⟩
      k_extra "w"
      have := h _ (by
        simp only [chainF, hf]
        exact B₂.setCh (r := s.chains ++ [(s.next, p :: q :: ps)]) (by rw [List.map_append])) ?_
      · simp only [chainF, hf] at this
        exact this
      · exact (E₁.setH (by simp [BA.S])).setH (by simp [BA.S])
end SSp3
section SSp1
variable {w : World} {base : Heap} {mg mb : Str → Option Value}
-- set_option profiler true
-- set_option profiler.threshold 100
theorem F_matching (G : (gx w base mg mb).Ok) {k cell : PyData} {σ : Hp} {Q} (hk : nice 20 k = true) (hc : nice 20 cell = true) (h : ∀ b, (b = true ↔ (k = Key.var.toData ∨ cell = Key.var.toData ∨ k = cell)) → Q (.d (.bool b)) σ) : FnC (gx w base mg mb) 1 (.ref 30) [.d k, .d cell] σ Q := by
  have hv := Key.nice .var
  refine FnC_def G [Str.ofString "key", Str.ofString "cell_key"] (by exact rfl) (by kernel_rfl) (fun vs hvs => ?_) (by kernel_rfl) (by decide +kernel) ?_
  · obtain ⟨a, b, rfl⟩ : ∃ a b, vs = [a, b] := by
      match vs, hvs with
      | [a, b], _ => exact ⟨a, b, rfl⟩
    rfl
  intro A F env O hsc
  dsimp only [List.zip, List.zipWith]
  k_extra "w"
  refine Op2_eq O hk hv fun b hb => ⟨b, rfl, ?_⟩
  cases b
  · k_extra "w"
    refine Op2_eq O hc hv fun b hb' => ⟨b, rfl, ?_⟩
    cases b
    · k_extra "w"
      refine Op2_eq O hk hc fun b hb'' => ?_
      refine h _ (hb''.trans ⟨fun e => .inr (.inr e), fun e => ?_⟩)
      rcases e with e | e | e
      · exact absurd (hb.mpr e) (by decide)
      · exact absurd (hb'.mpr e) (by decide)
      · exact e
    · k_extra "w"
      exact h true ⟨fun _ => .inr (.inl (hb'.mp rfl)), fun _ => rfl⟩
  · k_extra "w"
    exact h true ⟨fun _ => .inl (hb.mp rfl), fun _ => rfl⟩
theorem matchK_iff {a c : Key} : matchK a c = true ↔ (a.toData = Key.var.toData ∨ c.toData = Key.var.toData ∨ a.toData = c.toData) := by
  simp only [Key.inj, matchK, Bool.or_eq_true, decide_eq_true_eq, or_assoc]
theorem F_matchK (G : (gx w base mg mb).Ok) {a c : Key} {σ : Hp} {Q} (h : Q (.d (.bool (matchK a c))) σ) : FnC (gx w base mg mb) 1 (.ref 30) [.d a.toData, .d c.toData] σ Q := by
  refine F_matching G a.nice c.nice fun b hb => ?_
  have : b = matchK a c := by
    rw [Bool.eq_iff_iff, hb, matchK_iff]
  rw [this]; exact h
end SSp1
section SSp4
variable {w : World} {base : Heap} {mg mb : Str → Option Value}
-- set_option profiler true
-- set_option profiler.threshold 1000
theorem F_matching_places (G : (gx w base mg mb).Ok) {σ : Hp} {b : BA} {s : BS} {codes : List Code} {pl : Addr} {ps : List Int} {k : Key} {Q} (B : Bld σ b s) (C : Codes b.S σ b.cs codes) (hp : σ pl = some (.list (ps.map intPV))) (hr : InR codes ps)
    (hz : ps.length ≤ 1000) (hz2 : codes.length ≤ 1000)
    (h : ∀ r, σ r = none → Q (.r r) (setH σ r (.list ((matchPlaces codes ps k).map intPV)))) : FnC (gx w base mg mb) 2 (.ref 79) [.r b.x, .r pl, .d k.toData] σ Q := by
  refine FnC_def G [Str.ofString "self", Str.ofString "places", Str.ofString "cell_key"] (by exact rfl) (by kernel_rfl) (by (intro vs hvs; rcases vs with _ | ⟨a0, _ | ⟨a1, _ | ⟨a2, _ | ⟨a3, _ | ⟨a4, _ | ⟨a5, r⟩⟩⟩⟩⟩⟩ <;> first | (exfalso; simp at hvs; done) | rfl)) (by kernel_rfl) (by decide +kernel) ?_
  intro A F env O hsc
  dsimp only [List.zip, List.zipWith]
  have ix := B.ix
  have ns := B.ns
  k_extra "w"
  refine ⟨Nat.zero_le _, fun r hr0 => ?_⟩
  k_extra "w"
  ((with_reducible refine' Ex1_For ?z75o ?z75h ?z75s); (case z75o => assumption); (case z75s => (intro _; rfl)))
  k_extra "w"
  obtain ⟨J, hJ⟩ : ∃ J : Nat → Loc → Hp → Prop, ∀ i l σ', J i l σ' ↔ (LocLe [(Str.ofString "self", .r b.x), (Str.ofString "places", .r pl), (Str.ofString "cell_key", .d k.toData), (Str.ofString "found", .r r)] l ∧
    σ' = setH σ r (.list ((matchPlaces codes (ps.take i) k).map intPV))) := ⟨_, fun _ _ _ => Iff.rfl⟩
  refine ⟨ps.map intPV, J, (hJ _ _ _).mpr ⟨?_, rfl⟩, fun i l σ' hj => ?_, ?_, ?_⟩
  · k_extra "lle"
  · obtain ⟨_, rfl⟩ := (hJ _ _ _).mp hj
    exact setH_new hr0 hp
  · intro i l σ' v hv hj
    obtain ⟨hl, rfl⟩ := (hJ _ _ _).mp hj
    refine Tg.weak hl ?_
    obtain ⟨p, hp', rfl⟩ := map_get hv
    obtain ⟨kc, hk, hkey, hp0, hp1⟩ := hr.get hp'
    have C' := C.new (mo := .list ((matchPlaces codes (ps.take i) k).map intPV)) hr0
    obtain ⟨cxs, hcs, hlen, _, hget⟩ := C'.get
    obtain ⟨a, ha, ca⟩ := hget hk
    obtain ⟨dx, il, f, u, i1, i2, i3, _, _, _⟩ := ca.at_
    k_extra "w"
    ((with_reducible refine' k_plain ?z76h ?z76e); (case z76e => rfl))
    k_extra "g"
    k_extra "w"
    (with_reducible refine' Op1_attr ?z77o ?z77ix ?z77ns ?z77lk ?z77hg ?z77hh ?z77ha ?z77h; (case z77o => assumption); (case z77ix => k_extra "sg"); (case z77ns => k_extra "sg"); (case z77lk => k_extra "lk"); (case z77hg => kernel_rfl); (case z77hh => kernel_rfl); (case z77ha => kernel_rfl))
    k_extra "w"
    refine Op2_idxL hcs hp0 (by lia) ha ?_
    (with_reducible refine' Op1_attr ?z78o ?z78ix ?z78ns ?z78lk ?z78hg ?z78hh ?z78ha ?z78h; (case z78o => assumption); (case z78ix => k_extra "sg"); (case z78ns => k_extra "sg"); (case z78lk => k_extra "lk"); (case z78hg => kernel_rfl); (case z78hh => kernel_rfl); (case z78ha => kernel_rfl))
    k_extra "w"
    refine (F_matchK G ⟨_, rfl, ?_⟩).fn
    rw [← hkey]
    cases hm : matchK (keyAt codes p) k with
    | true =>
      k_extra "w"
      refine ⟨_, setH_self, ?_, ?_⟩
      · rw [List.length_map]; exact Nat.le_trans filter_len (by lia)
      k_extra "w"
      refine (hJ _ _ _).mpr ⟨by k_extra "lle", ?_⟩
      rw [setH_setH, matchPlaces_succ hp', if_pos hm, List.map_append]; rfl
    | false =>
      k_extra "w"
      refine (hJ _ _ _).mpr ⟨by k_extra "lle", ?_⟩
      rw [matchPlaces_succ hp', if_neg (by simp [hm])]
  · intro l σ' hj
    obtain ⟨hl, rfl⟩ := (hJ _ _ _).mp hj
    refine Ex.weak hl ?_
    k_extra "w"
    have := h r hr0
    rw [List.length_map, List.take_length]
    exact this
theorem F_variable_places (G : (gx w base mg mb).Ok) {σ : Hp} {b : BA} {s : BS} {codes : List Code} {pl : Addr} {ps : List Int} {Q} (B : Bld σ b s) (C : Codes b.S σ b.cs codes) (hp : σ pl = some (.list (ps.map intPV))) (hr : InR codes ps)
    (hz : ps.length ≤ 1000) (hz2 : codes.length ≤ 1000)
    (h : ∀ r, σ r = none → Q (.r r) (setH σ r (.list ((varPlaces codes ps).map intPV)))) : FnC (gx w base mg mb) 2 (.ref 86) [.r b.x, .r pl] σ Q := by
  refine FnC_def G [Str.ofString "self", Str.ofString "places"] (by exact rfl) (by kernel_rfl) (by (intro vs hvs; rcases vs with _ | ⟨a0, _ | ⟨a1, _ | ⟨a2, _ | ⟨a3, _ | ⟨a4, _ | ⟨a5, r⟩⟩⟩⟩⟩⟩ <;> first | (exfalso; simp at hvs; done) | rfl)) (by kernel_rfl) (by decide +kernel) ?_
  intro A F env O hsc
  dsimp only [List.zip, List.zipWith]
  have ix := B.ix
  have ns := B.ns
  k_extra "w"
  refine ⟨Nat.zero_le _, fun r hr0 => ?_⟩
  k_extra "w"
  ((with_reducible refine' Ex1_For ?z80o ?z80h ?z80s); (case z80o => assumption); (case z80s => (intro _; rfl)))
  k_extra "w"
  obtain ⟨J, hJ⟩ : ∃ J : Nat → Loc → Hp → Prop, ∀ i l σ', J i l σ' ↔ (LocLe [(Str.ofString "self", .r b.x), (Str.ofString "places", .r pl), (Str.ofString "found", .r r)] l ∧
    σ' = setH σ r (.list ((varPlaces codes (ps.take i)).map intPV))) := ⟨_, fun _ _ _ => Iff.rfl⟩
  refine ⟨ps.map intPV, J, (hJ _ _ _).mpr ⟨?_, rfl⟩, fun i l σ' hj => ?_, ?_, ?_⟩
  · k_extra "lle"
  · obtain ⟨_, rfl⟩ := (hJ _ _ _).mp hj
    exact setH_new hr0 hp
  · intro i l σ' v hv hj
    obtain ⟨hl, rfl⟩ := (hJ _ _ _).mp hj
    refine Tg.weak hl ?_
    obtain ⟨p, hp', rfl⟩ := map_get hv
    obtain ⟨kc, hk, hkey, hp0, hp1⟩ := hr.get hp'
    have C' := C.new (mo := .list ((varPlaces codes (ps.take i)).map intPV)) hr0
    obtain ⟨cxs, hcs, hlen, _, hget⟩ := C'.get
    obtain ⟨a, ha, ca⟩ := hget hk
    obtain ⟨dx, il, f, u, i1, i2, i3, _, _, _⟩ := ca.at_
    k_extra "w"
    (with_reducible refine' Op1_attr ?z81o ?z81ix ?z81ns ?z81lk ?z81hg ?z81hh ?z81ha ?z81h; (case z81o => assumption); (case z81ix => k_extra "sg"); (case z81ns => k_extra "sg"); (case z81lk => k_extra "lk"); (case z81hg => kernel_rfl); (case z81hh => kernel_rfl); (case z81ha => kernel_rfl))
    k_extra "w"
    refine Op2_idxL hcs hp0 (by lia) ha ?_
    (with_reducible refine' Op1_attr ?z82o ?z82ix ?z82ns ?z82lk ?z82hg ?z82hh ?z82ha ?z82h; (case z82o => assumption); (case z82ix => k_extra "sg"); (case z82ns => k_extra "sg"); (case z82lk => k_extra "lk"); (case z82hg => kernel_rfl); (case z82hh => kernel_rfl); (case z82ha => kernel_rfl))
    k_extra "w"
    refine Op2_eq O (Key.nice _) (Key.nice _) fun c hc => ⟨_, rfl, ?_⟩
    rw [Key.inj, ← hkey] at hc
    cases c with
    | true =>
      k_extra "w"
      refine ⟨_, setH_self, ?_, ?_⟩
      · rw [List.length_map]; exact Nat.le_trans filter_len (by lia)
      k_extra "w"
      refine (hJ _ _ _).mpr ⟨by k_extra "lle", ?_⟩
      rw [setH_setH, varPlaces_succ hp', if_pos (hc.mp rfl), List.map_append]; rfl
    | false =>
      k_extra "w"
      refine (hJ _ _ _).mpr ⟨by k_extra "lle", ?_⟩
      rw [varPlaces_succ hp', if_neg (fun z => by have := hc.mpr z; cases this)]
  · intro l σ' hj
    obtain ⟨hl, rfl⟩ := (hJ _ _ _).mp hj
    refine Ex.weak hl ?_
    k_extra "w"
    have := h r hr0
    rw [List.length_map, List.take_length]
    exact this
end SSp4
section SSp5
variable {w : World} {base : Heap} {mg mb : Str → Option Value}
-- set_option profiler true
-- set_option profiler.threshold 1000
theorem F_tableC (G : (gx w base mg mb).Ok) {σ : Hp} {b : BA} {s : BS} {codes : List Code} {pl : Addr} {ps : List Int} {Q} (B : Bld σ b s) (C : Codes b.S σ b.cs codes) (hp : σ pl = some (.list (ps.map intPV))) (hpS : pl ∉ b.S) (hr : InR codes ps)
    (hz : ps.length ≤ 400) (hz2 : codes.length ≤ 1000) (hk : s.known.length ≤ 500) (hc : s.chains.length ≤ 500)
    (h : ∀ σ', Bld σ' b (tableF codes ps "const" s).2.2 → Ext b.S σ σ' → Q (.d (.tuple ((tableF codes ps "const" s).1.map pairData))) σ') : FnC (gx w base mg mb) 3 (.ref 93) [.r b.x, .r pl, .d (sv "const")] σ Q := by
  refine FnC_def G [Str.ofString "self", Str.ofString "places", Str.ofString "kind"] (by exact rfl) (by kernel_rfl) (by (intro vs hvs; rcases vs with _ | ⟨a0, _ | ⟨a1, _ | ⟨a2, _ | ⟨a3, _ | ⟨a4, _ | ⟨a5, r⟩⟩⟩⟩⟩⟩ <;> first | (exfalso; simp at hvs; done) | rfl)) (by kernel_rfl) (by decide +kernel) ?_
  intro A F env O hsc
  dsimp only [List.zip, List.zipWith]
  have ix := B.ix
  have ns := B.ns
  k_extra "w"
  refine ⟨Nat.zero_le _, fun r hr0 => ?_⟩
  k_extra "w"
  refine Ev_DictT O fun sn hs0 => ?_
  have hrs : r ≠ sn := fun z => by rw [← z, setH_self] at hs0; cases hs0
  have hs0' : σ sn = none := by rw [setH_ne hrs.symm] at hs0; exact hs0
  have hrS := B.new_notin hr0
  have hsS := B.new_notin hs0'
  have hrx : r ≠ b.x := fun z => by rw [z, ix] at hr0; cases hr0
  have hsx : sn ≠ b.x := fun z => by rw [z, ix] at hs0'; cases hs0'
  k_extra "w"
  ((with_reducible refine' Ex1_For ?z84o ?z84h ?z84s); (case z84o => assumption); (case z84s => (intro _; rfl)))
  k_extra "w"
  obtain ⟨J, hJ⟩ : ∃ J : Nat → Loc → Hp → Prop, ∀ i l σ', J i l σ' ↔ (LocLe [(Str.ofString "self", .r b.x), (Str.ofString "places", .r pl), (Str.ofString "kind", .d (sv "const")), (Str.ofString "pairs", .r r), (Str.ofString "seen", .r sn)] l ∧
    ∃ a, a = (ps.take i).foldl (tableStep codes ps "const") ([], [], s) ∧ Bld σ' b a.2.2 ∧ Ext b.S σ σ' ∧ σ' r = some (.list (a.1.map pairPV)) ∧ σ' sn = some (.dT (a.2.1.map fun k => (wordL k, PV.d (.bool true))))) := ⟨_, fun _ _ _ => Iff.rfl⟩
  refine ⟨ps.map intPV, J, (hJ _ _ _).mpr ⟨?_, _, rfl, (B.new hr0).new hs0, (Ext.refl.setNew hr0).setNew hs0', ?_, setH_self⟩, fun i l σ' hj => ?_, ?_, ?_⟩
  · k_extra "lle"
  · rw [setH_ne hrs]; exact setH_self
  · obtain ⟨_, a, _, _, E, _⟩ := (hJ _ _ _).mp hj
    exact E _ _ hpS hp
  · intro i l σ' v hv hj
    obtain ⟨hl, a, ea, B', E, h1, h2⟩ := (hJ _ _ _).mp hj
    refine Tg.weak hl ?_
    obtain ⟨p, hp', rfl⟩ := map_get hv
    obtain ⟨kc, hk', hkey, hp0, hp1⟩ := hr.get hp'
    have C' := C.ext E fun a h => .inr h
    obtain ⟨cxs, hcs, hlen, _, hget⟩ := C'.get
    obtain ⟨ca, ha, cat⟩ := hget hk'
    obtain ⟨dx, il, f, u, i1, i2, i3, _, _, _⟩ := cat.at_
    have ix' := B'.ix
    have ns' := B'.ns
    have la := tableFold_len (codes := codes) (ps := ps) (kd := "const") (ps.take i) ([], [], s)
    have hi : (ps.take i).length ≤ ps.length := by rw [List.length_take]; lia
    have hseen := tableFold_seen (codes := codes) (ps := ps) (kd := "const") (ps.take i) ([], [], s) (by simp)
    have estep := foldl_take_succ (f := tableStep codes ps "const") (a := ([], [], s)) hp'
    rw [← ea] at la hseen estep
    simp only [List.length_nil, Nat.zero_add] at la
    k_extra "w"
    (with_reducible refine' Op1_attr ?z85o ?z85ix ?z85ns ?z85lk ?z85hg ?z85hh ?z85ha ?z85h; (case z85o => assumption); (case z85ix => k_extra "sg"); (case z85ns => k_extra "sg"); (case z85lk => k_extra "lk"); (case z85hg => kernel_rfl); (case z85hh => kernel_rfl); (case z85ha => kernel_rfl))
    k_extra "w"
    refine Op2_idxL hcs hp0 (by lia) ha ?_
    (with_reducible refine' Op1_attr ?z86o ?z86ix ?z86ns ?z86lk ?z86hg ?z86hh ?z86ha ?z86h; (case z86o => assumption); (case z86ix => k_extra "sg"); (case z86ns => k_extra "sg"); (case z86lk => k_extra "lk"); (case z86hg => kernel_rfl); (case z86hh => kernel_rfl); (case z86ha => kernel_rfl))
    k_extra "w"
    have hkd : ∃ rest, kc.key.toData = .tuple (sv kc.key.kind :: rest) := by cases kc.key <;> exact ⟨_, rfl⟩
    obtain ⟨rest, hrest⟩ := hkd
    rw [hrest]
    refine Op2_idxT (by decide) (by decide) (d := sv kc.key.kind) rfl ?_
    k_extra "w"
    refine Op2_eq O (nice_kind _) (by decide +kernel) fun c hc' => ⟨_, rfl, ?_⟩
    have hc2 : c = true ↔ kc.key.kind = "const" := by rw [hc']; simp only [sv, PyData.str.injEq, ofString_inj]
    cases c with
    | false =>
      k_extra "w"
      refine (hJ _ _ _).mpr ⟨by k_extra "lle", a, ?_, B', E, h1, h2⟩
      rw [estep, tableStep, if_neg]
      rw [hkey]
      exact fun z => absurd (hc2.mpr z.1) (by decide)
    | true =>
      have hkind := hc2.mp rfl
      obtain ⟨t, v, hkt⟩ : ∃ t v, kc.key = .const t v := by
        revert hkind
        cases kc.key <;> simp [Key.kind]
      rw [hkt] at hrest hkey
      obtain rfl : [PyData.tuple [.int t, .int v]] = rest := by simpa [Key.toData, Key.kind, sv] using hrest
      have hcc : sv kc.key.kind = sv "const" := by rw [hkt]; rfl
      rw [hcc]
      clear hrest hc' hcc
      k_extra "w"
      refine Op2_idxT (by decide) (by decide) (d := PyData.tuple [.int t, .int v]) rfl ?_
      k_extra "w"
      refine Op2_notinDT O h2 (k := [t, v]) ⟨_, rfl, ?_⟩
      have hlk := lkD_seenL hseen (t := t) (v := v)
      rw [hlk]
      by_cases hm : Key.const t v ∈ a.2.1
      · rw [decide_eq_true hm, Bool.not_true]
        k_extra "w"
        refine (hJ _ _ _).mpr ⟨by k_extra "lle", a, ?_, B', E, h1, h2⟩
        rw [estep, tableStep, if_neg]
        rw [hkey]
        exact fun z => z.2 hm
      · rw [decide_eq_false hm, Bool.not_false]
        rw [decide_eq_false hm] at hlk
        k_extra "w"
        refine Op2_idxT (by decide) (by decide) (d := PyData.tuple [.int t, .int v]) rfl ?_
        refine Op3_setDT O h2 (k := [t, v]) (by rw [List.length_map]; lia) ?_
        have es : stD [t, v] (PV.d (.bool true)) (a.2.1.map fun k => (wordL k, PV.d (.bool true))) = ((a.2.1 ++ [Key.const t v]).map fun k => (wordL k, PV.d (.bool true))) := by
          unfold stD
          rw [hlk, List.map_append]; rfl
        rw [es]
        have B₁ := B'.off (mo := .dT ((a.2.1 ++ [Key.const t v]).map fun k => (wordL k, PV.d (.bool true)))) hsx hsS
        have E₁ := E.setNew (mo := .dT ((a.2.1 ++ [Key.const t v]).map fun k => (wordL k, PV.d (.bool true)))) hs0'
        have h1₁ := (setH_ne (mo := .dT ((a.2.1 ++ [Key.const t v]).map fun k => (wordL k, PV.d (.bool true)))) hrs).trans h1
        have h2₁ := setH_self (σ := σ') (a := sn) (mo := .dT ((a.2.1 ++ [Key.const t v]).map fun k => (wordL k, PV.d (.bool true))))
        generalize hσ₁ : setH σ' sn (.dT ((a.2.1 ++ [Key.const t v]).map fun k => (wordL k, PV.d (.bool true)))) = σ₁ at *
        have ix₁ := B₁.ix
        have ns₁ := B₁.ns
        have C₁ := C.ext E₁ fun a h => .inr h
        k_extra "w"
        refine Op2_idxT (by decide) (by decide) (d := PyData.tuple [.int t, .int v]) rfl ?_
        k_extra "w"
        ((with_reducible refine' k_CallM ?z87o ?z87h ?z87e ?z87p); (case z87o => assumption); (case z87e => rfl); (case z87p => kernel_rfl))
        k_extra "w"
        refine ⟨_, _, _, _, 72, rfl, ix₁, ns₁, by k_extra "lk", by kernel_rfl, by kernel_rfl, by kernel_rfl, by kernel_rfl, ?_⟩
        k_extra "w"
        ((with_reducible refine' k_CallM ?z88o ?z88h ?z88e ?z88p); (case z88o => assumption); (case z88e => rfl); (case z88p => kernel_rfl))
        k_extra "w"
        refine ⟨_, _, _, _, 79, rfl, ix₁, ns₁, by k_extra "lk", by kernel_rfl, by kernel_rfl, by kernel_rfl, by kernel_rfl, ?_⟩
        k_extra "w"
        refine (F_matching_places G B₁ C₁ (E₁ _ _ hpS hp) hr (by lia) hz2 (k := Key.const t v) fun fr hfr => ?_).fn
        k_extra "w"
        refine (F_chain G (B₁.new hfr) setH_self (Nat.le_trans (List.length_filter_le _ _) (by lia)) (by lia) (by lia) fun σ₂ B₂ E₂ => ?_).fn
        k_extra "w"
        (first | refine ⟨[_], rfl, Nat.le_of_ble_eq_true rfl, ?_⟩ | refine ⟨[_, _], rfl, Nat.le_of_ble_eq_true rfl, ?_⟩ | refine ⟨[_, _, _], rfl, Nat.le_of_ble_eq_true rfl, ?_⟩ | refine ⟨[_, _, _, _], rfl, Nat.le_of_ble_eq_true rfl, ?_⟩ | refine ⟨[_, _, _, _, _], rfl, Nat.le_of_ble_eq_true rfl, ?_⟩)
        have E₃ := (E₁.new hfr).trans E₂
        have h1₂ : σ₂ r = some (.list (a.1.map pairPV)) := E₂ _ _ hrS (setH_new hfr h1₁)
        have h2₂ := E₂ _ _ hsS (setH_new hfr h2₁)
        refine ⟨_, h1₂, by rw [List.length_map]; lia, ?_⟩
        k_extra "w"
        have et : tableStep codes ps "const" a p = (a.1 ++ [(Key.const t v, (chainF a.2.2 (matchPlaces codes ps (Key.const t v))).1)], a.2.1 ++ [Key.const t v], (chainF a.2.2 (matchPlaces codes ps (Key.const t v))).2) := by
          rw [tableStep, if_pos (by rw [hkey]; exact ⟨rfl, hm⟩), hkey]
        refine (hJ _ _ _).mpr ⟨by k_extra "lle", _, (estep.trans et).symm, B₂.off hrx hrS, E₃.setNew hr0, ?_, ?_⟩
        · rw [setH_self, List.map_append]; rfl
        · rw [setH_ne hrs.symm]; exact h2₂
  · intro l σ' hj
    obtain ⟨hl, a, ea, B', E, h1, h2⟩ := (hJ _ _ _).mp hj
    refine Ex.weak hl ?_
    rw [List.length_map, List.take_length] at ea
    have ea' : a = tableF codes ps "const" s := ea
    have la := tableFold_len (codes := codes) (ps := ps) (kd := "const") ps ([], [], s)
    rw [← ea] at la
    simp only [List.length_nil, Nat.zero_add] at la
    k_extra "w"
    k_extra "g"
    k_extra "w"
    refine Fn_tuple (ds := a.1.map pairData) (by rw [List.map_map]; exact h1) (by rw [List.length_map]; lia) ?_
    rw [ea']
    exact h σ' (ea' ▸ B') E
theorem F_tableS (G : (gx w base mg mb).Ok) {σ : Hp} {b : BA} {s : BS} {codes : List Code} {pl : Addr} {ps : List Int} {Q} (B : Bld σ b s) (C : Codes b.S σ b.cs codes) (hp : σ pl = some (.list (ps.map intPV))) (hpS : pl ∉ b.S) (hr : InR codes ps)
    (hz : ps.length ≤ 400) (hz2 : codes.length ≤ 1000) (hk : s.known.length ≤ 500) (hc : s.chains.length ≤ 500)
    (h : ∀ σ', Bld σ' b (tableF codes ps "struct" s).2.2 → Ext b.S σ σ' → Q (.d (.tuple ((tableF codes ps "struct" s).1.map pairData))) σ') : FnC (gx w base mg mb) 3 (.ref 93) [.r b.x, .r pl, .d (sv "struct")] σ Q := by
  refine FnC_def G [Str.ofString "self", Str.ofString "places", Str.ofString "kind"] (by exact rfl) (by kernel_rfl) (by (intro vs hvs; rcases vs with _ | ⟨a0, _ | ⟨a1, _ | ⟨a2, _ | ⟨a3, _ | ⟨a4, _ | ⟨a5, r⟩⟩⟩⟩⟩⟩ <;> first | (exfalso; simp at hvs; done) | rfl)) (by kernel_rfl) (by decide +kernel) ?_
  intro A F env O hsc
  dsimp only [List.zip, List.zipWith]
  have ix := B.ix
  have ns := B.ns
  k_extra "w"
  refine ⟨Nat.zero_le _, fun r hr0 => ?_⟩
  k_extra "w"
  refine Ev_DictI O fun sn hs0 => ?_
  have hrs : r ≠ sn := fun z => by rw [← z, setH_self] at hs0; cases hs0
  have hs0' : σ sn = none := by rw [setH_ne hrs.symm] at hs0; exact hs0
  have hrS := B.new_notin hr0
  have hsS := B.new_notin hs0'
  have hrx : r ≠ b.x := fun z => by rw [z, ix] at hr0; cases hr0
  have hsx : sn ≠ b.x := fun z => by rw [z, ix] at hs0'; cases hs0'
  k_extra "w"
  ((with_reducible refine' Ex1_For ?z91o ?z91h ?z91s); (case z91o => assumption); (case z91s => (intro _; rfl)))
  k_extra "w"
  obtain ⟨J, hJ⟩ : ∃ J : Nat → Loc → Hp → Prop, ∀ i l σ', J i l σ' ↔ (LocLe [(Str.ofString "self", .r b.x), (Str.ofString "places", .r pl), (Str.ofString "kind", .d (sv "struct")), (Str.ofString "pairs", .r r), (Str.ofString "seen", .r sn)] l ∧
    ∃ a, a = (ps.take i).foldl (tableStep codes ps "struct") ([], [], s) ∧ Bld σ' b a.2.2 ∧ Ext b.S σ σ' ∧ σ' r = some (.list (a.1.map pairPV)) ∧ σ' sn = some (.dI (a.2.1.map fun k => (wordI k, PV.d (.bool true))))) := ⟨_, fun _ _ _ => Iff.rfl⟩
  refine ⟨ps.map intPV, J, (hJ _ _ _).mpr ⟨?_, _, rfl, (B.new hr0).new hs0, (Ext.refl.setNew hr0).setNew hs0', ?_, setH_self⟩, fun i l σ' hj => ?_, ?_, ?_⟩
  · k_extra "lle"
  · rw [setH_ne hrs]; exact setH_self
  · obtain ⟨_, a, _, _, E, _⟩ := (hJ _ _ _).mp hj
    exact E _ _ hpS hp
  · intro i l σ' v hv hj
    obtain ⟨hl, a, ea, B', E, h1, h2⟩ := (hJ _ _ _).mp hj
    refine Tg.weak hl ?_
    obtain ⟨p, hp', rfl⟩ := map_get hv
    obtain ⟨kc, hk', hkey, hp0, hp1⟩ := hr.get hp'
    have C' := C.ext E fun a h => .inr h
    obtain ⟨cxs, hcs, hlen, _, hget⟩ := C'.get
    obtain ⟨ca, ha, cat⟩ := hget hk'
    obtain ⟨dx, il, f, u, i1, i2, i3, _, _, _⟩ := cat.at_
    have ix' := B'.ix
    have ns' := B'.ns
    have la := tableFold_len (codes := codes) (ps := ps) (kd := "struct") (ps.take i) ([], [], s)
    have hi : (ps.take i).length ≤ ps.length := by rw [List.length_take]; lia
    have hseen := tableFold_seen (codes := codes) (ps := ps) (kd := "struct") (ps.take i) ([], [], s) (by simp)
    have estep := foldl_take_succ (f := tableStep codes ps "struct") (a := ([], [], s)) hp'
    rw [← ea] at la hseen estep
    simp only [List.length_nil, Nat.zero_add] at la
    k_extra "w"
    (with_reducible refine' Op1_attr ?z92o ?z92ix ?z92ns ?z92lk ?z92hg ?z92hh ?z92ha ?z92h; (case z92o => assumption); (case z92ix => k_extra "sg"); (case z92ns => k_extra "sg"); (case z92lk => k_extra "lk"); (case z92hg => kernel_rfl); (case z92hh => kernel_rfl); (case z92ha => kernel_rfl))
    k_extra "w"
    refine Op2_idxL hcs hp0 (by lia) ha ?_
    (with_reducible refine' Op1_attr ?z93o ?z93ix ?z93ns ?z93lk ?z93hg ?z93hh ?z93ha ?z93h; (case z93o => assumption); (case z93ix => k_extra "sg"); (case z93ns => k_extra "sg"); (case z93lk => k_extra "lk"); (case z93hg => kernel_rfl); (case z93hh => kernel_rfl); (case z93ha => kernel_rfl))
    k_extra "w"
    have hkd : ∃ rest, kc.key.toData = .tuple (sv kc.key.kind :: rest) := by cases kc.key <;> exact ⟨_, rfl⟩
    obtain ⟨rest, hrest⟩ := hkd
    rw [hrest]
    refine Op2_idxT (by decide) (by decide) (d := sv kc.key.kind) rfl ?_
    k_extra "w"
    refine Op2_eq O (nice_kind _) (by decide +kernel) fun c hc' => ⟨_, rfl, ?_⟩
    have hc2 : c = true ↔ kc.key.kind = "struct" := by rw [hc']; simp only [sv, PyData.str.injEq, ofString_inj]
    cases c with
    | false =>
      k_extra "w"
      refine (hJ _ _ _).mpr ⟨by k_extra "lle", a, ?_, B', E, h1, h2⟩
      rw [estep, tableStep, if_neg]
      rw [hkey]
      exact fun z => absurd (hc2.mpr z.1) (by decide)
    | true =>
      have hkind := hc2.mp rfl
      obtain ⟨fn, hkt⟩ : ∃ fn, kc.key = .struct fn := by
        revert hkind
        cases kc.key <;> simp [Key.kind]
      rw [hkt] at hrest hkey
      obtain rfl : [PyData.int fn] = rest := by simpa [Key.toData, Key.kind, sv] using hrest
      have hcc : sv kc.key.kind = sv "struct" := by rw [hkt]; rfl
      rw [hcc]
      clear hrest hc' hcc
      k_extra "w"
      refine Op2_idxT (by decide) (by decide) (d := PyData.int fn) rfl ?_
      k_extra "w"
      refine Op2_notinDI O h2 ⟨_, rfl, ?_⟩
      have hlk := lkD_seenI hseen (f := fn)
      rw [hlk]
      by_cases hm : Key.struct fn ∈ a.2.1
      · rw [decide_eq_true hm, Bool.not_true]
        k_extra "w"
        refine (hJ _ _ _).mpr ⟨by k_extra "lle", a, ?_, B', E, h1, h2⟩
        rw [estep, tableStep, if_neg]
        rw [hkey]
        exact fun z => z.2 hm
      · rw [decide_eq_false hm, Bool.not_false]
        rw [decide_eq_false hm] at hlk
        k_extra "w"
        refine Op2_idxT (by decide) (by decide) (d := PyData.int fn) rfl ?_
        refine Op3_setDI O h2 (by rw [List.length_map]; lia) ?_
        have es : stD fn (PV.d (.bool true)) (a.2.1.map fun k => (wordI k, PV.d (.bool true))) = ((a.2.1 ++ [Key.struct fn]).map fun k => (wordI k, PV.d (.bool true))) := by
          unfold stD
          rw [hlk, List.map_append]; rfl
        rw [es]
        have B₁ := B'.off (mo := .dI ((a.2.1 ++ [Key.struct fn]).map fun k => (wordI k, PV.d (.bool true)))) hsx hsS
        have E₁ := E.setNew (mo := .dI ((a.2.1 ++ [Key.struct fn]).map fun k => (wordI k, PV.d (.bool true)))) hs0'
        have h1₁ := (setH_ne (mo := .dI ((a.2.1 ++ [Key.struct fn]).map fun k => (wordI k, PV.d (.bool true)))) hrs).trans h1
        have h2₁ := setH_self (σ := σ') (a := sn) (mo := .dI ((a.2.1 ++ [Key.struct fn]).map fun k => (wordI k, PV.d (.bool true))))
        generalize hσ₁ : setH σ' sn (.dI ((a.2.1 ++ [Key.struct fn]).map fun k => (wordI k, PV.d (.bool true)))) = σ₁ at *
        have ix₁ := B₁.ix
        have ns₁ := B₁.ns
        have C₁ := C.ext E₁ fun a h => .inr h
        k_extra "w"
        refine Op2_idxT (by decide) (by decide) (d := PyData.int fn) rfl ?_
        k_extra "w"
        ((with_reducible refine' k_CallM ?z94o ?z94h ?z94e ?z94p); (case z94o => assumption); (case z94e => rfl); (case z94p => kernel_rfl))
        k_extra "w"
        refine ⟨_, _, _, _, 72, rfl, ix₁, ns₁, by k_extra "lk", by kernel_rfl, by kernel_rfl, by kernel_rfl, by kernel_rfl, ?_⟩
        k_extra "w"
        ((with_reducible refine' k_CallM ?z95o ?z95h ?z95e ?z95p); (case z95o => assumption); (case z95e => rfl); (case z95p => kernel_rfl))
        k_extra "w"
        refine ⟨_, _, _, _, 79, rfl, ix₁, ns₁, by k_extra "lk", by kernel_rfl, by kernel_rfl, by kernel_rfl, by kernel_rfl, ?_⟩
        k_extra "w"
        refine (F_matching_places G B₁ C₁ (E₁ _ _ hpS hp) hr (by lia) hz2 (k := Key.struct fn) fun fr hfr => ?_).fn
        k_extra "w"
        refine (F_chain G (B₁.new hfr) setH_self (Nat.le_trans (List.length_filter_le _ _) (by lia)) (by lia) (by lia) fun σ₂ B₂ E₂ => ?_).fn
        k_extra "w"
        (first | refine ⟨[_], rfl, Nat.le_of_ble_eq_true rfl, ?_⟩ | refine ⟨[_, _], rfl, Nat.le_of_ble_eq_true rfl, ?_⟩ | refine ⟨[_, _, _], rfl, Nat.le_of_ble_eq_true rfl, ?_⟩ | refine ⟨[_, _, _, _], rfl, Nat.le_of_ble_eq_true rfl, ?_⟩ | refine ⟨[_, _, _, _, _], rfl, Nat.le_of_ble_eq_true rfl, ?_⟩)
        have E₃ := (E₁.new hfr).trans E₂
        have h1₂ : σ₂ r = some (.list (a.1.map pairPV)) := E₂ _ _ hrS (setH_new hfr h1₁)
        have h2₂ := E₂ _ _ hsS (setH_new hfr h2₁)
        refine ⟨_, h1₂, by rw [List.length_map]; lia, ?_⟩
        k_extra "w"
        have et : tableStep codes ps "struct" a p = (a.1 ++ [(Key.struct fn, (chainF a.2.2 (matchPlaces codes ps (Key.struct fn))).1)], a.2.1 ++ [Key.struct fn], (chainF a.2.2 (matchPlaces codes ps (Key.struct fn))).2) := by
          rw [tableStep, if_pos (by rw [hkey]; exact ⟨rfl, hm⟩), hkey]
        refine (hJ _ _ _).mpr ⟨by k_extra "lle", _, (estep.trans et).symm, B₂.off hrx hrS, E₃.setNew hr0, ?_, ?_⟩
        · rw [setH_self, List.map_append]; rfl
        · rw [setH_ne hrs.symm]; exact h2₂
  · intro l σ' hj
    obtain ⟨hl, a, ea, B', E, h1, h2⟩ := (hJ _ _ _).mp hj
    refine Ex.weak hl ?_
    rw [List.length_map, List.take_length] at ea
    have ea' : a = tableF codes ps "struct" s := ea
    have la := tableFold_len (codes := codes) (ps := ps) (kd := "struct") ps ([], [], s)
    rw [← ea] at la
    simp only [List.length_nil, Nat.zero_add] at la
    k_extra "w"
    k_extra "g"
    k_extra "w"
    refine Fn_tuple (ds := a.1.map pairData) (by rw [List.map_map]; exact h1) (by rw [List.length_map]; lia) ?_
    rw [ea']
    exact h σ' (ea' ▸ B') E
end SSp5
section SSp6
variable {w : World} {base : Heap} {mg mb : Str → Option Value}
-- set_option profiler true
-- set_option profiler.threshold 1000
set_option maxHeartbeats 2000000 in
theorem F_switch (G : (gx w base mg mb).Ok) {σ : Hp} {b : BA} {s : BS} {codes : List Code} {pl : Addr} {ps : List Int} {Q} (B : Bld σ b s) (C : Codes b.S σ b.cs codes) (hp : σ pl = some (.list (ps.map intPV))) (hpS : pl ∉ b.S) (hr : InR codes ps)
    (hz : ps.length ≤ 50) (hz2 : codes.length ≤ 1000) (hk : s.known.length ≤ 300) (hc : s.chains.length ≤ 300) (hrw : s.rows.length ≤ 1000)
    (h : ∀ σ', Bld σ' b (addRows (switchF codes ps s).2 (switchF codes ps s).1) → Ext b.S σ σ' → Q (.d .none) σ') : FnC (gx w base mg mb) 4 (.ref 100) [.r b.x, .r pl] σ Q := by
  refine FnC_def G [Str.ofString "self", Str.ofString "places"] (by exact rfl) (by kernel_rfl) (by (intro vs hvs; rcases vs with _ | ⟨a0, _ | ⟨a1, _ | ⟨a2, _ | ⟨a3, _ | ⟨a4, _ | ⟨a5, r⟩⟩⟩⟩⟩⟩ <;> first | (exfalso; simp at hvs; done) | rfl)) (by kernel_rfl) (by decide +kernel) ?_
  intro A F env O hsc
  dsimp only [List.zip, List.zipWith]
  have ix := B.ix
  have ns := B.ns
  obtain ⟨d, hd⟩ : ∃ d, d = chainF s (varPlaces codes ps) := ⟨_, rfl⟩
  obtain ⟨c, hcc⟩ : ∃ c, c = tableF codes ps "const" d.2 := ⟨_, rfl⟩
  obtain ⟨t, ht⟩ : ∃ t, t = tableF codes ps "struct" c.2.2 := ⟨_, rfl⟩
  have ld := chainF_len s (varPlaces codes ps)
  rw [← hd] at ld
  have lc := tableFold_len (codes := codes) (ps := ps) (kd := "const") ps ([], [], d.2)
  rw [show ps.foldl (tableStep codes ps "const") ([], [], d.2) = c from hcc.symm] at lc
  have lt := tableFold_len (codes := codes) (ps := ps) (kd := "struct") ps ([], [], c.2.2)
  rw [show ps.foldl (tableStep codes ps "struct") ([], [], c.2.2) = t from ht.symm] at lt
  simp only [List.length_nil, Nat.zero_add] at lc lt
  k_extra "w"
  ((with_reducible refine' k_CallM ?z98o ?z98h ?z98e ?z98p); (case z98o => assumption); (case z98e => rfl); (case z98p => kernel_rfl))
  k_extra "w"
  refine ⟨_, _, _, _, 72, rfl, ix, ns, by k_extra "lk", by kernel_rfl, by kernel_rfl, by kernel_rfl, by kernel_rfl, ?_⟩
  k_extra "w"
  ((with_reducible refine' k_CallM ?z99o ?z99h ?z99e ?z99p); (case z99o => assumption); (case z99e => rfl); (case z99p => kernel_rfl))
  k_extra "w"
  refine ⟨_, _, _, _, 86, rfl, ix, ns, by k_extra "lk", by kernel_rfl, by kernel_rfl, by kernel_rfl, by kernel_rfl, ?_⟩
  k_extra "w"
  refine (F_variable_places G B C hp hr (by lia) hz2 fun r₁ hr₁ => ?_).fn.up (by decide)
  k_extra "w"
  refine (F_chain G (ps := varPlaces codes ps) (B.new hr₁) setH_self (Nat.le_trans (List.length_filter_le _ _) (by lia)) (by lia) (by lia) fun σ₁ B₁ E₁ => ?_).fn.up (by decide)
  rw [← hd] at B₁ ⊢
  replace E₁ := (Ext.refl.new hr₁).trans E₁
  have hp₁ := E₁ _ _ hpS hp
  have C₁ := C.ext E₁ fun a h => .inr h
  have ix₁ := B₁.ix
  have ns₁ := B₁.ns
  k_extra "w"
  ((with_reducible refine' k_CallM ?z100o ?z100h ?z100e ?z100p); (case z100o => assumption); (case z100e => rfl); (case z100p => kernel_rfl))
  k_extra "w"
  refine ⟨_, _, _, _, 93, rfl, ix₁, ns₁, by k_extra "lk", by kernel_rfl, by kernel_rfl, by kernel_rfl, by kernel_rfl, ?_⟩
  k_extra "w"
  refine (F_tableC G B₁ C₁ hp₁ hpS hr (by lia) hz2 (by lia) (by lia) fun σ₂ B₂ E₂ => ?_).fn
  rw [← hcc] at B₂ ⊢
  have hp₂ := E₂ _ _ hpS hp₁
  have C₂ := C₁.ext E₂ fun a h => .inr h
  replace E₂ := E₁.trans E₂
  have ix₂ := B₂.ix
  have ns₂ := B₂.ns
  k_extra "w"
  ((with_reducible refine' k_CallM ?z101o ?z101h ?z101e ?z101p); (case z101o => assumption); (case z101e => rfl); (case z101p => kernel_rfl))
  k_extra "w"
  refine ⟨_, _, _, _, 93, rfl, ix₂, ns₂, by k_extra "lk", by kernel_rfl, by kernel_rfl, by kernel_rfl, by kernel_rfl, ?_⟩
  k_extra "w"
  refine (F_tableS G B₂ C₂ hp₂ hpS hr (by lia) hz2 (by lia) (by lia) fun σ₃ B₃ E₃ => ?_).fn
  rw [← ht] at B₃ ⊢
  have hp₃ := E₃ _ _ hpS hp₂
  have C₃ := C₂.ext E₃ fun a h => .inr h
  replace E₃ := E₂.trans E₃
  obtain ⟨cl, hcl⟩ : ∃ cl, cl = bump (decide (0 < c.1.length)) d.1 t.2.2 := ⟨_, rfl⟩
  obtain ⟨sl, hsl⟩ : ∃ sl, sl = bump (decide (0 < t.1.length)) d.1 cl.2 := ⟨_, rfl⟩
  have lcl : cl.2.known = t.2.2.known ∧ cl.2.chains = t.2.2.chains ∧ cl.2.rows = t.2.2.rows := by rw [hcl]; unfold bump; split <;> exact ⟨rfl, rfl, rfl⟩
  have lsl : sl.2.known = cl.2.known ∧ sl.2.chains = cl.2.chains ∧ sl.2.rows = cl.2.rows := by rw [hsl]; unfold bump; split <;> exact ⟨rfl, rfl, rfl⟩
  k_extra "1"
  k_extra "1"
  k_extra "1"
  k_extra "1"
  k_extra "1"
  k_extra "1"
  refine Ex_cut (fun l σ' => LocLe [(Str.ofString "self", .r b.x), (Str.ofString "places", .r pl), (Str.ofString "default", intPV d.1), (Str.ofString "constants", .d (.tuple (c.1.map pairData))), (Str.ofString "structures", .d (.tuple (t.1.map pairData))),
    (Str.ofString "const_label", intPV cl.1), (Str.ofString "struct_label", intPV d.1)] l ∧ Bld σ' b cl.2 ∧ Ext b.S σ σ') ?_ ?_
  · k_extra "w"
    k_extra "g"
    k_extra "w"
    refine Fn_lenT (by rw [List.length_map]; lia) ?_
    k_extra "w"
    rw [List.length_map]
    by_cases hp : 0 < c.1.length
    · rw [decide_eq_true hp] at hcl
      (with_reducible refine' Eq.mpr (if_pos ?z102n) ?z102h; (case z102n => ((try simp only [decide_eq_true_eq, Option.map_none, Option.isSome_none, Option.map_some, Option.isSome_some, Bool.false_eq_true, not_false_eq_true, List.length_cons, List.length_map, List.length_nil, Bool.not_eq_true]); first | done | lia | assumption)))
      have ix₃ := B₃.ix
      have ns₃ := B₃.ns
      k_extra "w"
      ((with_reducible refine' k_CallM ?z103o ?z103h ?z103e ?z103p); (case z103o => assumption); (case z103e => rfl); (case z103p => kernel_rfl))
      k_extra "w"
      refine ⟨_, _, _, _, 58, rfl, ix₃, ns₃, by k_extra "lk", by kernel_rfl, by kernel_rfl, by kernel_rfl, by kernel_rfl, ?_⟩
      k_extra "w"
      refine (F_fresh G B₃ fun σ₄ B₄ E₄ => ?_).fn.up (by decide)
      k_extra "w"
      refine ⟨rfl, ?_, hcl ▸ B₄, E₃.trans E₄⟩
      rw [hcl]
      k_extra "lle"
    · rw [decide_eq_false hp] at hcl
      (with_reducible refine' Eq.mpr (if_neg ?z104n) ?z104h; (case z104n => ((try simp only [decide_eq_true_eq, Option.map_none, Option.isSome_none, Option.map_some, Option.isSome_some, Bool.false_eq_true, not_false_eq_true, List.length_cons, List.length_map, List.length_nil, Bool.not_eq_true]); first | done | lia | assumption)))
      k_extra "w"
      refine ⟨rfl, ?_, hcl ▸ B₃, E₃⟩
      rw [hcl]
      k_extra "lle"
  rintro l σ₄ ⟨hl, B₄, E₄⟩
  refine Mine.Ex.weak hl ?_
  clear hl
  refine Ex_cut (fun l σ' => LocLe [(Str.ofString "self", .r b.x), (Str.ofString "places", .r pl), (Str.ofString "default", intPV d.1), (Str.ofString "constants", .d (.tuple (c.1.map pairData))), (Str.ofString "structures", .d (.tuple (t.1.map pairData))),
    (Str.ofString "const_label", intPV cl.1), (Str.ofString "struct_label", intPV sl.1)] l ∧ Bld σ' b sl.2 ∧ Ext b.S σ σ') ?_ ?_
  · k_extra "w"
    k_extra "g"
    k_extra "w"
    refine Fn_lenT (by rw [List.length_map]; lia) ?_
    k_extra "w"
    rw [List.length_map]
    by_cases hp : 0 < t.1.length
    · rw [decide_eq_true hp] at hsl
      (with_reducible refine' Eq.mpr (if_pos ?z105n) ?z105h; (case z105n => ((try simp only [decide_eq_true_eq, Option.map_none, Option.isSome_none, Option.map_some, Option.isSome_some, Bool.false_eq_true, not_false_eq_true, List.length_cons, List.length_map, List.length_nil, Bool.not_eq_true]); first | done | lia | assumption)))
      have ix₄ := B₄.ix
      have ns₄ := B₄.ns
      k_extra "w"
      ((with_reducible refine' k_CallM ?z106o ?z106h ?z106e ?z106p); (case z106o => assumption); (case z106e => rfl); (case z106p => kernel_rfl))
      k_extra "w"
      refine ⟨_, _, _, _, 58, rfl, ix₄, ns₄, by k_extra "lk", by kernel_rfl, by kernel_rfl, by kernel_rfl, by kernel_rfl, ?_⟩
      k_extra "w"
      refine (F_fresh G B₄ fun σ₅ B₅ E₅ => ?_).fn.up (by decide)
      k_extra "w"
      refine ⟨rfl, ?_, hsl ▸ B₅, E₄.trans E₅⟩
      rw [hsl]
      k_extra "lle"
    · rw [decide_eq_false hp] at hsl
      (with_reducible refine' Eq.mpr (if_neg ?z107n) ?z107h; (case z107n => ((try simp only [decide_eq_true_eq, Option.map_none, Option.isSome_none, Option.map_some, Option.isSome_some, Bool.false_eq_true, not_false_eq_true, List.length_cons, List.length_map, List.length_nil, Bool.not_eq_true]); first | done | lia | assumption)))
      k_extra "w"
      refine ⟨rfl, ?_, hsl ▸ B₄, E₄⟩
      rw [hsl]
      k_extra "lle"
  rintro l σ₅ ⟨hl, B₅, E₅⟩
  refine Mine.Ex.weak hl ?_
  clear hl
  have ix₅ := B₅.ix
  have ns₅ := B₅.ns
  have hp₅ := E₅ _ _ hpS hp
  have C₅ := C.ext E₅ fun a h => .inr h
  k_extra "w"
  ((with_reducible refine' k_CallM ?z108o ?z108h ?z108e ?z108p); (case z108o => assumption); (case z108e => rfl); (case z108p => kernel_rfl))
  k_extra "w"
  refine ⟨_, _, _, _, 72, rfl, ix₅, ns₅, by k_extra "lk", by kernel_rfl, by kernel_rfl, by kernel_rfl, by kernel_rfl, ?_⟩
  k_extra "w"
  ((with_reducible refine' k_CallM ?z109o ?z109h ?z109e ?z109p); (case z109o => assumption); (case z109e => rfl); (case z109p => kernel_rfl))
  k_extra "w"
  refine ⟨_, _, _, _, 79, rfl, ix₅, ns₅, by k_extra "lk", by kernel_rfl, by kernel_rfl, by kernel_rfl, by kernel_rfl, ?_⟩
  k_extra "w"
  refine (F_matching_places G B₅ C₅ hp₅ hr (by lia) hz2 (k := .list) fun r₆ hr₆ => ?_).fn.up (by decide)
  k_extra "w"
  obtain ⟨lf, hlf⟩ : ∃ lf, lf = chainF sl.2 (matchPlaces codes ps .list) := ⟨_, rfl⟩
  have llf := chainF_len sl.2 (matchPlaces codes ps .list)
  rw [← hlf] at llf
  refine (F_chain G (ps := matchPlaces codes ps .list) (B₅.new hr₆) setH_self (Nat.le_trans (List.length_filter_le _ _) (by lia)) (by rw [lsl.1, lcl.1]; lia) (by rw [lsl.2.1, lcl.2.1]; lia) fun σ₆ B₆ E₆ => ?_).fn.up (by decide)
  rw [← hlf] at B₆ ⊢
  replace E₆ := E₅.trans ((Ext.refl.new hr₆).trans E₆)
  have ix₆ := B₆.ix
  have ns₆ := B₆.ns
  have rw₆ := B₆.rw
  have hp₆ := E₆ _ _ hpS hp
  k_extra "w"
  (with_reducible refine' Op1_attr ?z110o ?z110ix ?z110ns ?z110lk ?z110hg ?z110hh ?z110ha ?z110h; (case z110o => assumption); (case z110ix => k_extra "sg"); (case z110ns => k_extra "sg"); (case z110lk => k_extra "lk"); (case z110hg => kernel_rfl); (case z110hh => kernel_rfl); (case z110ha => kernel_rfl))
  k_extra "w"
  ((with_reducible refine' k_CallM ?z111o ?z111h ?z111e ?z111p); (case z111o => assumption); (case z111e => rfl); (case z111p => kernel_rfl))
  k_extra "w"
  refine ⟨_, _, _, _, 72, rfl, ix₆, ns₆, by k_extra "lk", by kernel_rfl, by kernel_rfl, by kernel_rfl, by kernel_rfl, ?_⟩
  k_extra "w"
  obtain ⟨af, haf⟩ : ∃ af, af = chainF lf.2 ps := ⟨_, rfl⟩
  refine (F_chain G (ps := ps) B₆ hp₆ (by lia) (by rw [lsl.1, lcl.1] at llf; lia) (by rw [lsl.2.1, lcl.2.1] at llf; lia) fun σ₇ B₇ E₇ => ?_).fn.up (by decide)
  rw [← haf] at B₇ ⊢
  replace E₇ := E₆.trans E₇
  k_extra "w"
  (first | refine ⟨[_], rfl, Nat.le_of_ble_eq_true rfl, ?_⟩ | refine ⟨[_, _], rfl, Nat.le_of_ble_eq_true rfl, ?_⟩ | refine ⟨[_, _, _], rfl, Nat.le_of_ble_eq_true rfl, ?_⟩ | refine ⟨[_, _, _, _], rfl, Nat.le_of_ble_eq_true rfl, ?_⟩ | refine ⟨[_, _, _, _, _], rfl, Nat.le_of_ble_eq_true rfl, ?_⟩)
  have hrows : af.2.rows = s.rows := by
    have e1 := (chainF_same s (varPlaces codes ps)).1
    rw [← hd] at e1
    have e2 := (tableFold_same (codes := codes) (ps := ps) (kd := "const") ps ([], [], d.2)).1
    rw [show ps.foldl (tableStep codes ps "const") ([], [], d.2) = c from hcc.symm] at e2
    have e3 := (tableFold_same (codes := codes) (ps := ps) (kd := "struct") ps ([], [], c.2.2)).1
    rw [show ps.foldl (tableStep codes ps "struct") ([], [], c.2.2) = t from ht.symm] at e3
    have e4 := (chainF_same sl.2 (matchPlaces codes ps .list)).1
    rw [← hlf] at e4
    have e5 := (chainF_same lf.2 ps).1
    rw [← haf] at e5
    rw [e5, e4, lsl.2.2, lcl.2.2, e3, e2, e1]
  refine ⟨_, B₇.rw, by rw [List.length_map, hrows]; lia, ?_⟩
  have Bx := B₇.setRw (r := s.rows ++ [.sot af.1 cl.1 lf.1 sl.1]) (xs := af.2.rows.map insPV ++ [.d (.tuple [sv "switch_on_term", .int af.1, .int cl.1, .int lf.1, .int sl.1])]) (by rw [List.map_append, hrows]; rfl)
  have EX := E₇.setH (a := b.rw) (mo := .list (af.2.rows.map insPV ++ [.d (.tuple [sv "switch_on_term", .int af.1, .int cl.1, .int lf.1, .int sl.1])])) (by simp [BA.S])
  have hlenL : (s.rows ++ [Ins.sot af.1 cl.1 lf.1 sl.1]).length ≤ 1003 := by simp only [List.length_append, List.length_cons, List.length_nil]; lia
  refine Mine.Ex.weak (l0 := [(Str.ofString "self", .r b.x), (Str.ofString "default", intPV d.1), (Str.ofString "constants", .d (.tuple (c.1.map pairData))), (Str.ofString "structures", .d (.tuple (t.1.map pairData))),
    (Str.ofString "const_label", intPV cl.1), (Str.ofString "struct_label", intPV sl.1)]) (by k_extra "lle") ?_
  generalize setH σ₇ b.rw (.list (af.2.rows.map insPV ++ [.d (.tuple [sv "switch_on_term", .int af.1, .int cl.1, .int lf.1, .int sl.1])])) = σ₈ at *
  refine Ex_cut (fun l σ' => LocLe [(Str.ofString "self", .r b.x), (Str.ofString "default", intPV d.1), (Str.ofString "constants", .d (.tuple (c.1.map pairData))), (Str.ofString "structures", .d (.tuple (t.1.map pairData))),
    (Str.ofString "const_label", intPV cl.1), (Str.ofString "struct_label", intPV sl.1)] l ∧ Bld σ' b { af.2 with rows := (s.rows ++ [Ins.sot af.1 cl.1 lf.1 sl.1]) ++ (if 0 < c.1.length then [.label cl.1, .soc c.1 d.1] else []) } ∧ Ext b.S σ σ') ?_ ?_
  · k_extra "w"
    k_extra "g"
    k_extra "w"
    refine Fn_lenT (by rw [List.length_map]; lia) ?_
    k_extra "w"
    rw [List.length_map]
    by_cases hp : 0 < c.1.length
    · rw [if_pos hp]
      (with_reducible refine' Eq.mpr (if_pos ?z113n) ?z113h; (case z113n => ((try simp only [decide_eq_true_eq, Option.map_none, Option.isSome_none, Option.map_some, Option.isSome_some, Bool.false_eq_true, not_false_eq_true, List.length_cons, List.length_map, List.length_nil, Bool.not_eq_true]); first | done | lia | assumption)))
      have ixa := Bx.ix
      have nsa := Bx.ns
      have rwa := Bx.rw
      k_extra "w"
      (with_reducible refine' Op1_attr ?z114o ?z114ix ?z114ns ?z114lk ?z114hg ?z114hh ?z114ha ?z114h; (case z114o => assumption); (case z114ix => k_extra "sg"); (case z114ns => k_extra "sg"); (case z114lk => k_extra "lk"); (case z114hg => kernel_rfl); (case z114hh => kernel_rfl); (case z114ha => kernel_rfl))
      refine ⟨_, _, rfl, rwa, ?_⟩
      k_extra "w"
      (first | refine ⟨[_], rfl, Nat.le_of_ble_eq_true rfl, ?_⟩ | refine ⟨[_, _], rfl, Nat.le_of_ble_eq_true rfl, ?_⟩ | refine ⟨[_, _, _], rfl, Nat.le_of_ble_eq_true rfl, ?_⟩ | refine ⟨[_, _, _, _], rfl, Nat.le_of_ble_eq_true rfl, ?_⟩ | refine ⟨[_, _, _, _, _], rfl, Nat.le_of_ble_eq_true rfl, ?_⟩)
      refine ⟨_, rwa, by rw [List.length_map]; exact Nat.le_trans hlenL (by lia), ?_⟩
      have By := Bx.setRw (r := (s.rows ++ [Ins.sot af.1 cl.1 lf.1 sl.1]) ++ [Ins.label cl.1]) (xs := ((s.rows ++ [Ins.sot af.1 cl.1 lf.1 sl.1])).map insPV ++ [.d (.tuple [sv "label", .int cl.1])]) (by simp only [List.map_append, List.append_assoc]; rfl)
      have Ey := EX.setH (a := b.rw) (mo := .list (((s.rows ++ [Ins.sot af.1 cl.1 lf.1 sl.1])).map insPV ++ [.d (.tuple [sv "label", .int cl.1])])) (by simp [BA.S])
      have ixb := By.ix
      have nsb := By.ns
      have rwb := By.rw
      k_extra "w"
      (with_reducible refine' Op1_attr ?z116o ?z116ix ?z116ns ?z116lk ?z116hg ?z116hh ?z116ha ?z116h; (case z116o => assumption); (case z116ix => k_extra "sg"); (case z116ns => k_extra "sg"); (case z116lk => k_extra "lk"); (case z116hg => kernel_rfl); (case z116hh => kernel_rfl); (case z116ha => kernel_rfl))
      refine ⟨_, _, rfl, rwb, ?_⟩
      k_extra "w"
      (first | refine ⟨[_], rfl, Nat.le_of_ble_eq_true rfl, ?_⟩ | refine ⟨[_, _], rfl, Nat.le_of_ble_eq_true rfl, ?_⟩ | refine ⟨[_, _, _], rfl, Nat.le_of_ble_eq_true rfl, ?_⟩ | refine ⟨[_, _, _, _], rfl, Nat.le_of_ble_eq_true rfl, ?_⟩ | refine ⟨[_, _, _, _, _], rfl, Nat.le_of_ble_eq_true rfl, ?_⟩)
      refine ⟨_, rwb, by rw [List.length_map]; exact Nat.le_trans (Nat.le_of_eq List.length_append) (Nat.le_trans (Nat.add_le_add_right hlenL 1) (by lia)), ?_⟩
      k_extra "w"
      refine ⟨rfl, by k_extra "lle", ?_, Ey.setH (by simp [BA.S])⟩
      have := By.setRw (r := (s.rows ++ [Ins.sot af.1 cl.1 lf.1 sl.1]) ++ [.label cl.1, .soc c.1 d.1]) (xs := ((s.rows ++ [Ins.sot af.1 cl.1 lf.1 sl.1]) ++ [Ins.label cl.1]).map insPV ++ [.d (.tuple [sv "switch_on_constant", .tuple (c.1.map pairData), .int d.1])]) (by simp only [List.map_append, List.append_assoc]; rfl)
      exact this
    · rw [if_neg hp]
      (with_reducible refine' Eq.mpr (if_neg ?z118n) ?z118h; (case z118n => ((try simp only [decide_eq_true_eq, Option.map_none, Option.isSome_none, Option.map_some, Option.isSome_some, Bool.false_eq_true, not_false_eq_true, List.length_cons, List.length_map, List.length_nil, Bool.not_eq_true]); first | done | lia | assumption)))
      k_extra "w"
      refine ⟨rfl, by k_extra "lle", ?_, EX⟩
      rw [List.append_nil]
      exact Bx
  clear Bx EX
  rintro l σ₉ ⟨hl, Bx, EX⟩
  refine Mine.Ex.weak hl ?_
  clear hl
  obtain ⟨rr, hrr⟩ : ∃ rr, rr = (s.rows ++ [Ins.sot af.1 cl.1 lf.1 sl.1]) ++ (if 0 < c.1.length then [.label cl.1, .soc c.1 d.1] else []) := ⟨_, rfl⟩
  rw [← hrr] at Bx
  replace hlenL : rr.length ≤ 1003 := by rw [hrr]; split <;> simp only [List.length_append, List.length_cons, List.length_nil] at * <;> lia
  refine Ex_cut (fun l σ' => LocLe [(Str.ofString "self", .r b.x), (Str.ofString "default", intPV d.1), (Str.ofString "constants", .d (.tuple (c.1.map pairData))), (Str.ofString "structures", .d (.tuple (t.1.map pairData))),
    (Str.ofString "const_label", intPV cl.1), (Str.ofString "struct_label", intPV sl.1)] l ∧ Bld σ' b { af.2 with rows := rr ++ (if 0 < t.1.length then [.label sl.1, .sos t.1 d.1] else []) } ∧ Ext b.S σ σ') ?_ ?_
  · k_extra "w"
    k_extra "g"
    k_extra "w"
    refine Fn_lenT (by rw [List.length_map]; lia) ?_
    k_extra "w"
    rw [List.length_map]
    by_cases hp : 0 < t.1.length
    · rw [if_pos hp]
      (with_reducible refine' Eq.mpr (if_pos ?z119n) ?z119h; (case z119n => ((try simp only [decide_eq_true_eq, Option.map_none, Option.isSome_none, Option.map_some, Option.isSome_some, Bool.false_eq_true, not_false_eq_true, List.length_cons, List.length_map, List.length_nil, Bool.not_eq_true]); first | done | lia | assumption)))
      have ixa := Bx.ix
      have nsa := Bx.ns
      have rwa := Bx.rw
      k_extra "w"
      (with_reducible refine' Op1_attr ?z120o ?z120ix ?z120ns ?z120lk ?z120hg ?z120hh ?z120ha ?z120h; (case z120o => assumption); (case z120ix => k_extra "sg"); (case z120ns => k_extra "sg"); (case z120lk => k_extra "lk"); (case z120hg => kernel_rfl); (case z120hh => kernel_rfl); (case z120ha => kernel_rfl))
      refine ⟨_, _, rfl, rwa, ?_⟩
      k_extra "w"
      (first | refine ⟨[_], rfl, Nat.le_of_ble_eq_true rfl, ?_⟩ | refine ⟨[_, _], rfl, Nat.le_of_ble_eq_true rfl, ?_⟩ | refine ⟨[_, _, _], rfl, Nat.le_of_ble_eq_true rfl, ?_⟩ | refine ⟨[_, _, _, _], rfl, Nat.le_of_ble_eq_true rfl, ?_⟩ | refine ⟨[_, _, _, _, _], rfl, Nat.le_of_ble_eq_true rfl, ?_⟩)
      refine ⟨_, rwa, by rw [List.length_map]; exact Nat.le_trans hlenL (by lia), ?_⟩
      have By := Bx.setRw (r := rr ++ [Ins.label sl.1]) (xs := (rr).map insPV ++ [.d (.tuple [sv "label", .int sl.1])]) (by simp only [List.map_append, List.append_assoc]; rfl)
      have Ey := EX.setH (a := b.rw) (mo := .list ((rr).map insPV ++ [.d (.tuple [sv "label", .int sl.1])])) (by simp [BA.S])
      have ixb := By.ix
      have nsb := By.ns
      have rwb := By.rw
      k_extra "w"
      (with_reducible refine' Op1_attr ?z122o ?z122ix ?z122ns ?z122lk ?z122hg ?z122hh ?z122ha ?z122h; (case z122o => assumption); (case z122ix => k_extra "sg"); (case z122ns => k_extra "sg"); (case z122lk => k_extra "lk"); (case z122hg => kernel_rfl); (case z122hh => kernel_rfl); (case z122ha => kernel_rfl))
      refine ⟨_, _, rfl, rwb, ?_⟩
      k_extra "w"
      (first | refine ⟨[_], rfl, Nat.le_of_ble_eq_true rfl, ?_⟩ | refine ⟨[_, _], rfl, Nat.le_of_ble_eq_true rfl, ?_⟩ | refine ⟨[_, _, _], rfl, Nat.le_of_ble_eq_true rfl, ?_⟩ | refine ⟨[_, _, _, _], rfl, Nat.le_of_ble_eq_true rfl, ?_⟩ | refine ⟨[_, _, _, _, _], rfl, Nat.le_of_ble_eq_true rfl, ?_⟩)
      refine ⟨_, rwb, by rw [List.length_map]; exact Nat.le_trans (Nat.le_of_eq List.length_append) (Nat.le_trans (Nat.add_le_add_right hlenL 1) (by lia)), ?_⟩
      k_extra "w"
      refine ⟨rfl, by k_extra "lle", ?_, Ey.setH (by simp [BA.S])⟩
      have := By.setRw (r := rr ++ [.label sl.1, .sos t.1 d.1]) (xs := (rr ++ [Ins.label sl.1]).map insPV ++ [.d (.tuple [sv "switch_on_structure", .tuple (t.1.map pairData), .int d.1])]) (by simp only [List.map_append, List.append_assoc]; rfl)
      exact this
    · rw [if_neg hp]
      (with_reducible refine' Eq.mpr (if_neg ?z124n) ?z124h; (case z124n => ((try simp only [decide_eq_true_eq, Option.map_none, Option.isSome_none, Option.map_some, Option.isSome_some, Bool.false_eq_true, not_false_eq_true, List.length_cons, List.length_map, List.length_nil, Bool.not_eq_true]); first | done | lia | assumption)))
      k_extra "w"
      refine ⟨rfl, by k_extra "lle", ?_, EX⟩
      rw [List.append_nil]
      exact Bx
  rintro l σ₁₀ ⟨hl, B₁₀, E₁₀⟩
  k_extra "w"
  refine h σ₁₀ ?_ E₁₀
  have e : switchF codes ps s = (.sot af.1 cl.1 lf.1 sl.1 :: (if 0 < c.1.length then [.label cl.1, .soc c.1 d.1] else []) ++ (if 0 < t.1.length then [.label sl.1, .sos t.1 d.1] else []), af.2) := by
    rw [haf, hlf, hsl, hcl, ht, hcc, hd]; rfl
  rw [e]
  unfold addRows
  rw [hrows]
  rw [hrr] at B₁₀
  simpa only [List.append_assoc, List.cons_append, List.nil_append] using B₁₀
end SSp6
section SSp6b
variable {w : World} {base : Heap} {mg mb : Str → Option Value}
-- set_option profiler true
-- set_option profiler.threshold 1000
/-- for row in ..: self.rows.append(row) -/
theorem rowsLoop_self {A : Around} {F : Addr → Prop} {env : Env} {n : Nat} (O : Cx.Ok ⟨gx w base mg mb, A, F, env⟩ n) {loc : Loc} {σ : Hp} {iter : PySem.Expr} {p1 p2 p3 p4 p5 p6 p7 p8 : Pos} {Q} (hme : env.kindOf (Str.ofString "self") = some .local) (hrow : env.kindOf (Str.ofString "row") = some .local)
    (h : Ev ⟨gx w base mg mb, A, F, env⟩ iter loc σ fun x l₁ σ₁ => ∃ a b s rs l0, x = .r a ∧ σ₁ a = some (.list (rs.map insPV)) ∧ a ∉ b.S ∧ LocLe l0 l₁ ∧ lkp (Str.ofString "self") l0 = some (.r b.x) ∧ lkp (Str.ofString "row") l0 = none ∧ Bld σ₁ b s ∧ s.rows.length + rs.length ≤ 1000000 ∧
      ∀ l σ', LocLe l0 l → Bld σ' b (addRows s rs) → Ext b.S σ₁ σ' → Q .next l σ')
    {pl : Sem Bool} (he : eval (.Call (.Attribute (.Attribute (.Name (Str.ofString "self") p2) (Str.ofString "rows") p3) "append" p4) [.Name (Str.ofString "row") p5] [] p6) env = (do
      let ov ← eval (.Attribute (.Name (Str.ofString "self") p2) (Str.ofString "rows") p3) env
      standAt p4.atName
      let (f, first) ← holding [ov] (getMethod ov "append" pl)
      callWith p6 f first (backTo p6 (starEach [.Name (Str.ofString "row") p5] env)) []))
    (hs : ∀ x, foldedSetIterable iter env x = pure x := by intro _; rfl) :
    Ex1 ⟨gx w base mg mb, A, F, env⟩ (.For (.Name (Str.ofString "row") p1) iter [.Expr (.Call (.Attribute (.Attribute (.Name (Str.ofString "self") p2) (Str.ofString "rows") p3) (Str.ofString "append") p4) [.Name (Str.ofString "row") p5] [] p6) p7] [] p8) loc σ Q := by
  refine Ex1_For O (Tr.mono h fun x l₁ σ₁ q => ?_) hs
  obtain ⟨a, b, s, rs, l0, rfl, ha, haS, hl, hm, hr, B, hz, q⟩ := q
  refine ⟨rs.map insPV, fun i l σ' => LocLe l0 l ∧ Bld σ' b (addRows s (rs.take i)) ∧ Ext b.S σ₁ σ', ⟨hl, by simpa [addRows] using B, Ext.refl⟩, fun i l σ' ⟨_, _, E⟩ => E _ _ haS ha, ?_, ?_⟩
  · rintro i l σ' v hv ⟨hl', B', E⟩
    obtain ⟨r, hr', rfl⟩ := map_get hv
    refine Tg.weak hl' (Tg_name O hrow ?_)
    refine Ex_cons (Ex1_append O ?_ he)
    have ix := B'.ix
    have ns := B'.ns
    have rw_ := B'.rw
    refine Ev_Attr (Ev_local O (pv := .r b.x) (by rw [lkp_setL, if_neg (by decide +kernel)]; exact hm) hme ?_)
    refine Op1_attr O ix ns (by k_extra "lk") (by kernel_rfl) (by kernel_rfl) (by kernel_rfl) ?_
    refine ⟨_, _, rfl, rw_, ?_⟩
    refine Ev_local O (by rw [lkp_setL, if_pos rfl]) hrow ?_ (by decide +kernel)
    refine ⟨_, rw_, ?_, ?_⟩
    · rw [List.length_map]
      simp only [addRows, List.length_append, List.length_take]
      lia
    refine Ex_nil ⟨(LocLe.refl l0).setL hr, ?_, ?_⟩
    · have := B'.setRw (r := s.rows ++ rs.take (i + 1)) (xs := (addRows s (rs.take i)).rows.map insPV ++ [insPV r]) (by
        rw [take_succ' hr']
        simp [addRows])
      exact this
    · exact E.setH (by simp [BA.S])
  · rintro l σ' ⟨hl', B', E⟩
    rw [List.length_map, List.take_length] at B'
    exact q l σ' hl' B' E
/-- for row in ..: builder.rows.append(row) -/
theorem rowsLoop_builder {A : Around} {F : Addr → Prop} {env : Env} {n : Nat} (O : Cx.Ok ⟨gx w base mg mb, A, F, env⟩ n) {loc : Loc} {σ : Hp} {iter : PySem.Expr} {p1 p2 p3 p4 p5 p6 p7 p8 : Pos} {Q} (hme : env.kindOf (Str.ofString "builder") = some .local) (hrow : env.kindOf (Str.ofString "row") = some .local)
    (h : Ev ⟨gx w base mg mb, A, F, env⟩ iter loc σ fun x l₁ σ₁ => ∃ a b s rs l0, x = .r a ∧ σ₁ a = some (.list (rs.map insPV)) ∧ a ∉ b.S ∧ LocLe l0 l₁ ∧ lkp (Str.ofString "builder") l0 = some (.r b.x) ∧ lkp (Str.ofString "row") l0 = none ∧ Bld σ₁ b s ∧ s.rows.length + rs.length ≤ 1000000 ∧
      ∀ l σ', LocLe l0 l → Bld σ' b (addRows s rs) → Ext b.S σ₁ σ' → Q .next l σ')
    {pl : Sem Bool} (he : eval (.Call (.Attribute (.Attribute (.Name (Str.ofString "builder") p2) (Str.ofString "rows") p3) "append" p4) [.Name (Str.ofString "row") p5] [] p6) env = (do
      let ov ← eval (.Attribute (.Name (Str.ofString "builder") p2) (Str.ofString "rows") p3) env
      standAt p4.atName
      let (f, first) ← holding [ov] (getMethod ov "append" pl)
      callWith p6 f first (backTo p6 (starEach [.Name (Str.ofString "row") p5] env)) []))
    (hs : ∀ x, foldedSetIterable iter env x = pure x := by intro _; rfl) :
    Ex1 ⟨gx w base mg mb, A, F, env⟩ (.For (.Name (Str.ofString "row") p1) iter [.Expr (.Call (.Attribute (.Attribute (.Name (Str.ofString "builder") p2) (Str.ofString "rows") p3) (Str.ofString "append") p4) [.Name (Str.ofString "row") p5] [] p6) p7] [] p8) loc σ Q := by
  refine Ex1_For O (Tr.mono h fun x l₁ σ₁ q => ?_) hs
  obtain ⟨a, b, s, rs, l0, rfl, ha, haS, hl, hm, hr, B, hz, q⟩ := q
  refine ⟨rs.map insPV, fun i l σ' => LocLe l0 l ∧ Bld σ' b (addRows s (rs.take i)) ∧ Ext b.S σ₁ σ', ⟨hl, by simpa [addRows] using B, Ext.refl⟩, fun i l σ' ⟨_, _, E⟩ => E _ _ haS ha, ?_, ?_⟩
  · rintro i l σ' v hv ⟨hl', B', E⟩
    obtain ⟨r, hr', rfl⟩ := map_get hv
    refine Tg.weak hl' (Tg_name O hrow ?_)
    refine Ex_cons (Ex1_append O ?_ he)
    have ix := B'.ix
    have ns := B'.ns
    have rw_ := B'.rw
    refine Ev_Attr (Ev_local O (pv := .r b.x) (by rw [lkp_setL, if_neg (by decide +kernel)]; exact hm) hme ?_)
    refine Op1_attr O ix ns (by k_extra "lk") (by kernel_rfl) (by kernel_rfl) (by kernel_rfl) ?_
    refine ⟨_, _, rfl, rw_, ?_⟩
    refine Ev_local O (by rw [lkp_setL, if_pos rfl]) hrow ?_ (by decide +kernel)
    refine ⟨_, rw_, ?_, ?_⟩
    · rw [List.length_map]
      simp only [addRows, List.length_append, List.length_take]
      lia
    refine Ex_nil ⟨(LocLe.refl l0).setL hr, ?_, ?_⟩
    · have := B'.setRw (r := s.rows ++ rs.take (i + 1)) (xs := (addRows s (rs.take i)).rows.map insPV ++ [insPV r]) (by
        rw [take_succ' hr']
        simp [addRows])
      exact this
    · exact E.setH (by simp [BA.S])
  · rintro l σ' ⟨hl', B', E⟩
    rw [List.length_map, List.take_length] at B'
    exact q l σ' hl' B' E
end SSp6b

section SSp7
variable {w : World} {base : Heap} {mg mb : Str → Option Value}
-- set_option profiler true
-- set_option profiler.threshold 1000
set_option maxHeartbeats 2000000 in
theorem F_finish (G : (gx w base mg mb).Ok) {σ : Hp} {b : BA} {s : BS} {codes : List Code} {Q} (B : Bld σ b s) (C : Codes b.S σ b.cs codes) (h2 : ∀ q ∈ s.chains, 2 ≤ q.2.length ∧ q.2.length ≤ 100)
    (hz2 : codes.length ≤ 100) (hc : s.chains.length ≤ 200) (hrw : s.rows.length ≤ 1000) (hins : ∀ k ∈ codes, k.ins.length ≤ 100)
    (h : ∀ σ', Bld σ' b { s with rows := finishRows codes s } → Ext b.S σ σ' → Q (.r b.rw) σ') : FnC (gx w base mg mb) 2 (.ref 107) [.r b.x] σ Q := by
  refine FnC_def G [Str.ofString "self"] (by exact rfl) (by kernel_rfl) (by (intro vs hvs; rcases vs with _ | ⟨a0, _ | ⟨a1, _ | ⟨a2, _ | ⟨a3, _ | ⟨a4, _ | ⟨a5, r⟩⟩⟩⟩⟩⟩ <;> first | (exfalso; simp at hvs; done) | rfl)) (by kernel_rfl) (by decide +kernel) ?_
  intro A F env O hsc
  dsimp only [List.zip, List.zipWith]
  have ix := B.ix
  have ns := B.ns
  obtain ⟨g, hg⟩ : ∃ g : Int × List Int → List Ins, g = fun q => .label q.1 :: chainRows s.ar q.2 := ⟨_, rfl⟩
  have hgl : ∀ qs : List (Int × List Int), (∀ q ∈ qs, q ∈ s.chains) → (qs.flatMap g).length ≤ qs.length * 102 := by
    intro qs
    induction qs with
    | nil => intro _; simp
    | cons q qs ih =>
      intro hq
      have h1 := ih fun q h => hq q (.tail _ h)
      have h3 := h2 q (hq q (.head _))
      have e1 : (g q).length ≤ 102 := by
        rw [hg]
        simp only [chainRows, List.length_cons, List.length_append, List.length_map, List.length_dropLast, List.length_drop, List.length_nil]
        lia
      simp only [List.flatMap_cons, List.length_append, List.length_cons]
      lia
  refine Ex_cut (fun l σ' => LocLe [(Str.ofString "self", .r b.x)] l ∧ Bld σ' b (addRows s (s.chains.flatMap g)) ∧ Ext b.S σ σ') ?_ ?_
  · ((with_reducible refine' Ex1_For ?z126o ?z126h ?z126s); (case z126o => assumption); (case z126s => (intro _; rfl)))
    k_extra "w"
    (with_reducible refine' Op1_attr ?z127o ?z127ix ?z127ns ?z127lk ?z127hg ?z127hh ?z127ha ?z127h; (case z127o => assumption); (case z127ix => k_extra "sg"); (case z127ns => k_extra "sg"); (case z127lk => k_extra "lk"); (case z127hg => kernel_rfl); (case z127hh => kernel_rfl); (case z127ha => kernel_rfl))
    obtain ⟨J, hJ⟩ : ∃ J : Nat → Loc → Hp → Prop, ∀ i l σ', J i l σ' ↔ (LocLe [(Str.ofString "self", .r b.x)] l ∧ Bld σ' b (addRows s ((s.chains.take i).flatMap g)) ∧ Ext b.S σ σ') := ⟨_, fun _ _ _ => Iff.rfl⟩
    refine ⟨s.chains.map chainPV, J, (hJ _ _ _).mpr ⟨by k_extra "lle", by simpa [addRows] using B, Ext.refl⟩, fun i l σ' hj => ?_, ?_, ?_⟩
    · obtain ⟨_, B', _⟩ := (hJ _ _ _).mp hj
      exact B'.ch
    · intro i l σ' v hv hj
      obtain ⟨hl, B', E⟩ := (hJ _ _ _).mp hj
      refine Tg.weak hl ?_
      obtain ⟨q, hq, rfl⟩ := map_get hv
      have hqm := List.mem_of_getElem? hq
      have h3 := h2 q hqm
      have ix' := B'.ix
      have ns' := B'.ns
      have rw' := B'.rw
      have hlen := hgl (s.chains.take i) fun q h => List.mem_of_mem_take h
      have hti : (s.chains.take i).length ≤ 200 := by rw [List.length_take]; lia
      k_extra "w"
      (with_reducible refine' Op1_attr ?z128o ?z128ix ?z128ns ?z128lk ?z128hg ?z128hh ?z128ha ?z128h; (case z128o => assumption); (case z128ix => k_extra "sg"); (case z128ns => k_extra "sg"); (case z128lk => k_extra "lk"); (case z128hg => kernel_rfl); (case z128hh => kernel_rfl); (case z128ha => kernel_rfl))
      refine ⟨_, _, rfl, rw', ?_⟩
      k_extra "w"
      refine Op2_idxT (by decide) (by decide) (d := .int q.1) rfl ?_
      k_extra "w"
      (first | refine ⟨[_], rfl, Nat.le_of_ble_eq_true rfl, ?_⟩ | refine ⟨[_, _], rfl, Nat.le_of_ble_eq_true rfl, ?_⟩ | refine ⟨[_, _, _], rfl, Nat.le_of_ble_eq_true rfl, ?_⟩ | refine ⟨[_, _, _, _], rfl, Nat.le_of_ble_eq_true rfl, ?_⟩ | refine ⟨[_, _, _, _, _], rfl, Nat.le_of_ble_eq_true rfl, ?_⟩)
      refine ⟨_, rw', ?_, ?_⟩
      · rw [List.length_map]
        simp only [addRows, List.length_append]
        lia
      have B₁ := B'.setRw (r := s.rows ++ (s.chains.take i).flatMap g ++ [.label q.1]) (xs := (addRows s ((s.chains.take i).flatMap g)).rows.map insPV ++ [.d (.tuple [sv "label", .int q.1])]) (by
        simp only [addRows, List.map_append]; rfl)
      have E₁ := E.setH (a := b.rw) (mo := .list ((addRows s ((s.chains.take i).flatMap g)).rows.map insPV ++ [.d (.tuple [sv "label", .int q.1])])) (by simp [BA.S])
      have ix₁ := B₁.ix
      have ns₁ := B₁.ns
      have C₁ := C.ext E₁ fun a h => .inr h
      k_extra "1"
      ((with_reducible refine' rowsLoop_self ?z130o ?z130k1 ?z130k2 ?z130h ?z130e ?z130s); (case z130o => assumption); (case z130k1 => k_extra "kd"); (case z130k2 => k_extra "kd"); (case z130e => rfl); (case z130s => (intro _; rfl)))
      ((with_reducible refine' k_CallM ?z131o ?z131h ?z131e ?z131p); (case z131o => assumption); (case z131e => rfl); (case z131p => kernel_rfl))
      k_extra "w"
      refine ⟨_, _, _, _, 65, rfl, ix₁, ns₁, by k_extra "lk", by kernel_rfl, by kernel_rfl, by kernel_rfl, by kernel_rfl, ?_⟩
      k_extra "w"
      refine Op2_idxT (by decide) (by decide) (d := .tuple (q.2.map .int)) rfl ?_
      k_extra "w"
      refine (F_chain_rows G (pv := .d (.tuple (q.2.map .int))) B₁ rfl h3.1 (by lia) fun r hr => ?_).fn
      have hcr : (chainRows s.ar q.2).length ≤ 102 := by
        simp only [chainRows, List.length_cons, List.length_append, List.length_map, List.length_dropLast, List.length_drop, List.length_nil]
        lia
      refine ⟨r, b, _, chainRows s.ar q.2, [(Str.ofString "self", .r b.x)], rfl, setH_self, B₁.new_notin hr, by k_extra "lle", by k_extra "lk", by k_extra "lk", B₁.new hr, ?_, fun l₂ σ₂ hl₂ B₂ E₂ => ?_⟩
      · simp only [List.length_append, List.length_cons, List.length_nil]; lia
      refine Mine.Ex.weak hl₂ ?_
      k_extra "w"
      refine (hJ _ _ _).mpr ⟨by k_extra "lle", ?_, (E₁.new hr).trans E₂⟩
      rw [take_succ' hq, List.flatMap_append]
      have e : ∀ l : List Ins, (s.rows ++ l ++ [Ins.label q.1]) ++ chainRows s.ar q.2 = s.rows ++ (l ++ [q].flatMap g) := by
        intro l
        rw [hg]
        simp only [List.flatMap_cons, List.flatMap_nil, List.append_nil, List.append_assoc, List.cons_append, List.nil_append]
      unfold addRows at B₂ ⊢
      rw [← e]
      exact B₂
    · intro l σ' hj
      obtain ⟨hl, B', E⟩ := (hJ _ _ _).mp hj
      rw [List.length_map, List.take_length] at B'
      exact ⟨rfl, hl, B', E⟩
  rintro l σ₁ ⟨hl, B₁, E₁⟩
  refine Mine.Ex.weak hl ?_
  clear hl l
  have hR := hgl s.chains fun q h => h
  obtain ⟨R, hRR⟩ : ∃ R, R = s.chains.flatMap g := ⟨_, rfl⟩
  rw [← hRR] at B₁ hR
  obtain ⟨f, hf⟩ : ∃ f : Code × Nat → List Ins, f = fun q => .label q.2 :: q.1.ins := ⟨_, rfl⟩
  have hfl : ∀ qs : List (Code × Nat), (∀ q ∈ qs, q.1 ∈ codes) → (qs.flatMap f).length ≤ qs.length * 102 := by
    intro qs
    induction qs with
    | nil => intro _; simp
    | cons q qs ih =>
      intro hq
      have h1 := ih fun q h => hq q (.tail _ h)
      have h3 := hins q.1 (hq q (.head _))
      have e1 : (f q).length ≤ 102 := by
        rw [hf]
        simp only [List.length_cons]
        lia
      simp only [List.flatMap_cons, List.length_append, List.length_cons]
      lia
  refine Ex_cut (fun l σ' => LocLe [(Str.ofString "self", .r b.x)] l ∧ Bld σ' b (addRows s (R ++ codes.zipIdx.flatMap f)) ∧ Ext b.S σ σ') ?_ ?_
  · have C₁ := C.ext E₁ fun a h => .inr h
    have ix₁ := B₁.ix
    have ns₁ := B₁.ns
    obtain ⟨cxs, hcs, hlen, _, hget⟩ := C₁.get
    ((with_reducible refine' Ex1_For ?z132o ?z132h ?z132s); (case z132o => assumption); (case z132s => (intro _; rfl)))
    k_extra "g"
    k_extra "w"
    k_extra "g"
    k_extra "w"
    (with_reducible refine' Op1_attr ?z133o ?z133ix ?z133ns ?z133lk ?z133hg ?z133hh ?z133ha ?z133h; (case z133o => assumption); (case z133ix => k_extra "sg"); (case z133ns => k_extra "sg"); (case z133lk => k_extra "lk"); (case z133hg => kernel_rfl); (case z133hh => kernel_rfl); (case z133ha => kernel_rfl))
    k_extra "w"
    refine Fn_len hcs (by lia) ?_
    k_extra "w"
    obtain ⟨J, hJ⟩ : ∃ J : Nat → Loc → Hp → Prop, ∀ i l σ', J i l σ' ↔ (LocLe [(Str.ofString "self", .r b.x)] l ∧ Bld σ' b (addRows s (R ++ (codes.zipIdx.take i).flatMap f)) ∧ Ext b.S σ σ') := ⟨_, fun _ _ _ => Iff.rfl⟩
    refine Fn_range1 ⟨(upto 0 cxs.length).map fun i => .d (.int i), J, (hJ _ _ _).mpr ⟨?_, ?_, E₁⟩, fun i l σ' hj => ?_, ?_, ?_⟩
    · k_extra "lle"
    · simpa using B₁
    · exact items_rng (by lia) (by lia) (by lia) (by lia)
    · intro i l σ' v hv hj
      obtain ⟨hl, B', E⟩ := (hJ _ _ _).mp hj
      refine Tg.weak hl ?_
      obtain ⟨rfl, hi⟩ := upto_get hv
      have hlt : i < codes.length := by lia
      have hq : codes.zipIdx[i]? = some (codes[i], i) := by simp [hlt]
      have ix' := B'.ix
      have ns' := B'.ns
      have rw' := B'.rw
      have hlen2 := hfl (codes.zipIdx.take i) fun q h => by
        have := List.mem_of_mem_take h
        exact List.fst_mem_of_mem_zipIdx this
      have hti : (codes.zipIdx.take i).length ≤ 100 := by rw [List.length_take]; lia
      have h3 := hins codes[i] (List.getElem_mem _)
      k_extra "w"
      (with_reducible refine' Op1_attr ?z134o ?z134ix ?z134ns ?z134lk ?z134hg ?z134hh ?z134ha ?z134h; (case z134o => assumption); (case z134ix => k_extra "sg"); (case z134ns => k_extra "sg"); (case z134lk => k_extra "lk"); (case z134hg => kernel_rfl); (case z134hh => kernel_rfl); (case z134ha => kernel_rfl))
      refine ⟨_, _, rfl, rw', ?_⟩
      k_extra "w"
      (first | refine ⟨[_], rfl, Nat.le_of_ble_eq_true rfl, ?_⟩ | refine ⟨[_, _], rfl, Nat.le_of_ble_eq_true rfl, ?_⟩ | refine ⟨[_, _, _], rfl, Nat.le_of_ble_eq_true rfl, ?_⟩ | refine ⟨[_, _, _, _], rfl, Nat.le_of_ble_eq_true rfl, ?_⟩ | refine ⟨[_, _, _, _, _], rfl, Nat.le_of_ble_eq_true rfl, ?_⟩)
      have hrl : (addRows s (R ++ (codes.zipIdx.take i).flatMap f)).rows.length ≤ 40000 := by
        simp only [addRows, List.length_append]
        lia
      refine ⟨_, rw', by rw [List.length_map]; lia, ?_⟩
      have B₂ := B'.setRw (r := s.rows ++ (R ++ (codes.zipIdx.take i).flatMap f) ++ [.label i]) (xs := (addRows s (R ++ (codes.zipIdx.take i).flatMap f)).rows.map insPV ++ [.d (.tuple [sv "label", .int (0 + (i : Int))])]) (by
        rw [Int.zero_add]
        simp only [addRows, List.map_append]; rfl)
      have E₂ := E.setH (a := b.rw) (mo := .list ((addRows s (R ++ (codes.zipIdx.take i).flatMap f)).rows.map insPV ++ [.d (.tuple [sv "label", .int (0 + (i : Int))])])) (by simp [BA.S])
      have ix₂ := B₂.ix
      have ns₂ := B₂.ns
      have C₂ := C.ext E₂ fun a h => .inr h
      obtain ⟨cxs2, hcs2, hlen2, _, hget2⟩ := C₂.get
      obtain ⟨a, ha, ca⟩ := hget2 (show codes[i]? = some codes[i] by simp [hlt])
      obtain ⟨dx, il, fn, u, i1, i2, i3, _, _, n3⟩ := ca.at_
      k_extra "1"
      ((with_reducible refine' rowsLoop_self ?z136o ?z136k1 ?z136k2 ?z136h ?z136e ?z136s); (case z136o => assumption); (case z136k1 => k_extra "kd"); (case z136k2 => k_extra "kd"); (case z136e => rfl); (case z136s => (intro _; rfl)))
      k_extra "w"
      (with_reducible refine' Op1_attr ?z137o ?z137ix ?z137ns ?z137lk ?z137hg ?z137hh ?z137ha ?z137h; (case z137o => assumption); (case z137ix => k_extra "sg"); (case z137ns => k_extra "sg"); (case z137lk => k_extra "lk"); (case z137hg => kernel_rfl); (case z137hh => kernel_rfl); (case z137ha => kernel_rfl))
      k_extra "w"
      refine Op2_idxL hcs2 (by lia) (by lia) (by rw [show (0 + (i : Int)).toNat = i by lia]; exact ha) ?_
      (with_reducible refine' Op1_attr ?z138o ?z138ix ?z138ns ?z138lk ?z138hg ?z138hh ?z138ha ?z138h; (case z138o => assumption); (case z138ix => k_extra "sg"); (case z138ns => k_extra "sg"); (case z138lk => k_extra "lk"); (case z138hg => kernel_rfl); (case z138hh => kernel_rfl); (case z138ha => kernel_rfl))
      refine ⟨il, b, _, codes[i].ins, [(Str.ofString "self", .r b.x)], rfl, i3, n3, by k_extra "lle", by k_extra "lk", by k_extra "lk", B₂, ?_, fun l₃ σ₃ hl₃ B₃ E₃ => ?_⟩
      · simp only [addRows] at hrl
        simp only [List.length_append, List.length_cons, List.length_nil] at hrl ⊢; lia
      refine Mine.Ex.weak hl₃ ?_
      k_extra "w"
      refine (hJ _ _ _).mpr ⟨by k_extra "lle", ?_, E₂.trans E₃⟩
      rw [take_succ' hq, List.flatMap_append]
      have e : ∀ l : List Ins, (s.rows ++ (R ++ l) ++ [Ins.label i]) ++ codes[i].ins = s.rows ++ (R ++ (l ++ [(codes[i], i)].flatMap f)) := by
        intro l
        rw [hf]
        simp only [List.flatMap_cons, List.flatMap_nil, List.append_nil, List.append_assoc, List.cons_append, List.nil_append]
      unfold addRows at B₃ ⊢
      rw [← e]
      exact B₃
    · intro l σ' hj
      obtain ⟨hl, B', E⟩ := (hJ _ _ _).mp hj
      rw [upto_len, hlen, show (((codes.length : Nat) : Int) - 0).toNat = codes.zipIdx.length by simp, List.take_length] at B'
      exact ⟨rfl, hl, B', E⟩
  rintro l σ₂ ⟨hl, B₂, E₂⟩
  refine Mine.Ex.weak hl ?_
  have ix₂ := B₂.ix
  have ns₂ := B₂.ns
  k_extra "w"
  (with_reducible refine' Op1_attr ?z139o ?z139ix ?z139ns ?z139lk ?z139hg ?z139hh ?z139ha ?z139h; (case z139o => assumption); (case z139ix => k_extra "sg"); (case z139ns => k_extra "sg"); (case z139lk => k_extra "lk"); (case z139hg => kernel_rfl); (case z139hh => kernel_rfl); (case z139ha => kernel_rfl))
  refine h σ₂ ?_ E₂
  have e : finishRows codes s = s.rows ++ (R ++ codes.zipIdx.flatMap f) := by
    rw [hRR, hg, hf, finishRows, List.append_assoc]
  rw [e]
  exact B₂
end SSp7
section SSp8
variable {w : World} {base : Heap} {mg mb : Str → Option Value}
-- set_option profiler true
-- set_option profiler.threshold 1000
theorem F_builder (G : (gx w base mg mb).Ok) {σ : Hp} {ar : Int} {cs : Addr} {xs : List PV} {Q} (hcs : σ cs = some (.list xs)) (hz : xs.length ≤ 1000)
    (h : ∀ σ' b, b.cs = cs → Bld σ' b ⟨ar, [], [], [], xs.length⟩ → Ext [] σ σ' → (∀ a ∈ b.S, σ a = none) → σ b.x = none → Q (.r b.x) σ') : Fn (gx w base mg mb) 2 (.ref 110) [intPV ar, .r cs] σ Q := by
  refine Fn_cls G (n := 1) (fI := 51) (by kernel_rfl) (by kernel_rfl) (by kernel_rfl) fun x dx hx hdx hne => ?_
  refine FnC_def G [Str.ofString "self", Str.ofString "arity", Str.ofString "codes"] (by exact rfl) (by kernel_rfl) (by (intro vs hvs; rcases vs with _ | ⟨a0, _ | ⟨a1, _ | ⟨a2, _ | ⟨a3, _ | ⟨a4, _ | ⟨a5, r⟩⟩⟩⟩⟩⟩ <;> first | (exfalso; simp at hvs; done) | rfl)) (by kernel_rfl) (by decide +kernel) ?_
  intro A F env O hsc
  dsimp only [List.zip, List.zipWith]
  have hcd : cs ≠ dx := ne_of_some hdx hcs
  have hcx : cs ≠ x := ne_of_some hx hcs
  have hcs0 : (setH (setH σ dx (.ns [])) x (.inst 110 dx)) cs = some (.list xs) := by rw [setH_ne hcx, setH_ne hcd]; exact hcs
  have ix : (setH (setH σ dx (.ns [])) x (.inst 110 dx)) x = some (.inst 110 dx) := setH_self
  have ns : (setH (setH σ dx (.ns [])) x (.inst 110 dx)) dx = some (.ns []) := by rw [setH_ne hne.symm]; exact setH_self
  have E0 : Ext [] σ (setH (setH σ dx (.ns [])) x (.inst 110 dx)) := (Ext.refl.setNew hdx).setNew hx
  generalize setH (setH σ dx (.ns [])) x (.inst 110 dx) = σ₀ at *
  k_extra "w"
  (with_reducible refine' Op2_setAttr ?z141o ?z141ix ?z141ns ?z141hz ?z141hs ?z141hp ?z141ht ?z141hh ?z141h; (case z141o => assumption); (case z141ix => k_extra "sg"); (case z141ns => k_extra "sg"); (case z141hz => exact Nat.le_of_ble_eq_true rfl); (case z141hs => kernel_rfl); (case z141hp => kernel_rfl); (case z141ht => kernel_rfl); (case z141hh => kernel_rfl))
  k_extra "w"
  (with_reducible refine' Op2_setAttr ?z142o ?z142ix ?z142ns ?z142hz ?z142hs ?z142hp ?z142ht ?z142hh ?z142h; (case z142o => assumption); (case z142ix => k_extra "sg"); (case z142ns => k_extra "sg"); (case z142hz => exact Nat.le_of_ble_eq_true rfl); (case z142hs => kernel_rfl); (case z142hp => kernel_rfl); (case z142ht => kernel_rfl); (case z142hh => kernel_rfl))
  k_extra "w"
  refine ⟨Nat.zero_le _, fun r hr => ?_⟩
  have hrd : r ≠ dx := fun e => by subst e; rw [setH_self] at hr; cases hr
  rw [setH_ne hrd, setH_ne hrd] at hr
  have hrx : r ≠ x := fun e => by rw [e, ix] at hr; cases hr
  k_extra "w"
  (with_reducible refine' Op2_setAttr ?z143o ?z143ix ?z143ns ?z143hz ?z143hs ?z143hp ?z143ht ?z143hh ?z143h; (case z143o => assumption); (case z143ix => k_extra "sg"); (case z143ns => k_extra "sg"); (case z143hz => exact Nat.le_of_ble_eq_true rfl); (case z143hs => kernel_rfl); (case z143hp => kernel_rfl); (case z143ht => kernel_rfl); (case z143hh => kernel_rfl))
  k_extra "w"
  refine ⟨Nat.zero_le _, fun ch hch => ?_⟩
  have hcd' : ch ≠ dx := fun e => by subst e; rw [setH_self] at hch; cases hch
  rw [setH_ne hcd'] at hch
  have hcr : ch ≠ r := fun e => by subst e; rw [setH_self] at hch; cases hch
  rw [setH_ne hcr, setH_ne hcd', setH_ne hcd'] at hch
  k_extra "w"
  have hns1 : ∀ (m : MO) τ, (setH (setH τ dx m) ch (.list [])) dx = some m := fun m τ => by rw [setH_ne hcd'.symm]; exact setH_self
  have hcx' : ch ≠ x := fun e => by rw [e, ix] at hch; cases hch
  have hix1 : ∀ (m m1 m2 m3 m4 : MO), (setH (setH (setH (setH (setH σ₀ dx m) dx m1) r m2) dx m3) ch m4) x = some (.inst 110 dx) := fun m m1 m2 m3 m4 => by
    rw [setH_ne hcx'.symm, setH_ne hne, setH_ne hrx.symm, setH_ne hne, setH_ne hne]; exact ix
  (with_reducible refine' Op2_setAttr ?z144o ?z144ix ?z144ns ?z144hz ?z144hs ?z144hp ?z144ht ?z144hh ?z144h; (case z144o => assumption); (case z144ix => k_extra "sg"); (case z144ns => k_extra "sg"); (case z144hz => exact Nat.le_of_ble_eq_true rfl); (case z144hs => kernel_rfl); (case z144hp => kernel_rfl); (case z144ht => kernel_rfl); (case z144hh => kernel_rfl))
  k_extra "w"
  refine Ev_DictT O fun kn hkn => ?_
  have hkd : kn ≠ dx := fun e => by subst e; rw [setH_self] at hkn; cases hkn
  rw [setH_ne hkd] at hkn
  have hkc : kn ≠ ch := fun e => by subst e; rw [setH_self] at hkn; cases hkn
  rw [setH_ne hkc, setH_ne hkd] at hkn
  have hkr : kn ≠ r := fun e => by subst e; rw [setH_self] at hkn; cases hkn
  rw [setH_ne hkr, setH_ne hkd, setH_ne hkd] at hkn
  have hkx : kn ≠ x := fun e => by rw [e, ix] at hkn; cases hkn
  have hcsr : cs ≠ r := ne_of_some hr hcs0
  have hcsc : cs ≠ ch := ne_of_some hch hcs0
  have hcsk : cs ≠ kn := ne_of_some hkn hcs0
  obtain ⟨σ₁, hσ₁⟩ : ∃ σ₁, σ₁ = setH (setH (setH (setH (setH (setH σ₀ dx (MO.ns (setL (Str.ofString "arity") (intPV ar) []))) dx (MO.ns (setL (Str.ofString "codes") (PV.r cs) (setL (Str.ofString "arity") (intPV ar) [])))) r (MO.list [])) dx
    (MO.ns (setL (Str.ofString "rows") (PV.r r) (setL (Str.ofString "codes") (PV.r cs) (setL (Str.ofString "arity") (intPV ar) []))))) ch (MO.list [])) dx
    (MO.ns (setL (Str.ofString "chains") (PV.r ch) (setL (Str.ofString "rows") (PV.r r) (setL (Str.ofString "codes") (PV.r cs) (setL (Str.ofString "arity") (intPV ar) []))))) := ⟨_, rfl⟩
  have ns₁ : (setH σ₁ kn (.dT [])) dx = some (.ns [(Str.ofString "arity", intPV ar), (Str.ofString "codes", PV.r cs), (Str.ofString "rows", PV.r r), (Str.ofString "chains", PV.r ch)]) := by
    rw [setH_ne hkd.symm, hσ₁, setH_self]
    simp only [setL, ofString_inj, String.reduceEq, if_true, if_false]
  have ix₁ : (setH σ₁ kn (.dT [])) x = some (.inst 110 dx) := by
    rw [setH_ne hkx.symm, hσ₁, setH_ne hne]; exact hix1 ..
  have hr₁ : (setH σ₁ kn (.dT [])) r = some (.list []) := by
    rw [setH_ne hkr.symm, hσ₁, setH_ne hrd, setH_ne hcr.symm, setH_ne hrd, setH_self]
  have hch₁ : (setH σ₁ kn (.dT [])) ch = some (.list []) := by
    rw [setH_ne hkc.symm, hσ₁, setH_ne hcd', setH_self]
  have hkn₁ : (setH σ₁ kn (.dT [])) kn = some (.dT []) := setH_self
  have hcs₁ : (setH σ₁ kn (.dT [])) cs = some (.list xs) := by
    rw [setH_ne hcsk, hσ₁, setH_ne hcd, setH_ne hcsc, setH_ne hcd, setH_ne hcsr, setH_ne hcd, setH_ne hcd]; exact hcs0
  have E₁ : Ext [] σ (setH σ₁ kn (.dT [])) := by
    have n0 : ∀ {a}, σ₀ a = none → σ a = none := fun {a} e => by
      cases q : σ a with
      | none => rfl
      | some mo => have := E0 _ _ (by simp) q; rw [e] at this; cases this
    rw [hσ₁]
    exact ((((((E0.setNew hdx).setNew hdx).setNew (n0 hr)).setNew hdx).setNew (n0 hch)).setNew hdx).setNew (n0 hkn)
  rw [← hσ₁]
  have n0 : ∀ {a}, σ₀ a = none → σ a = none := fun {a} e => by
    cases q : σ a with
    | none => rfl
    | some mo => have := E0 _ _ (by simp) q; rw [e] at this; cases this
  have hrn := n0 hr
  have hcn := n0 hch
  have hkn' := n0 hkn
  clear hix1 hns1 hr hch hkn n0 hcs0 ix ns E0
  generalize setH σ₁ kn (.dT []) = σ₂ at *
  k_extra "w"
  (with_reducible refine' Op2_setAttr ?z145o ?z145ix ?z145ns ?z145hz ?z145hs ?z145hp ?z145ht ?z145hh ?z145h; (case z145o => assumption); (case z145ix => k_extra "sg"); (case z145ns => k_extra "sg"); (case z145hz => exact Nat.le_of_ble_eq_true rfl); (case z145hs => kernel_rfl); (case z145hp => kernel_rfl); (case z145ht => kernel_rfl); (case z145hh => kernel_rfl))
  k_extra "w"
  k_extra "g"
  k_extra "w"
  refine Fn_len (by rw [setH_ne hcd]; exact hcs₁) (by lia) ?_
  k_extra "w"
  (with_reducible refine' Op2_setAttr ?z146o ?z146ix ?z146ns ?z146hz ?z146hs ?z146hp ?z146ht ?z146hh ?z146h; (case z146o => assumption); (case z146ix => k_extra "sg"); (case z146ns => k_extra "sg"); (case z146hz => exact Nat.le_of_ble_eq_true rfl); (case z146hs => kernel_rfl); (case z146hp => kernel_rfl); (case z146ht => kernel_rfl); (case z146hh => kernel_rfl))
  k_extra "w"
  rw [setH_setH]
  refine ⟨rfl, h _ ⟨x, dx, cs, r, ch, kn⟩ rfl ⟨?_, ?_, ?_, ?_, ?_, hcr.symm⟩ (E₁.setNew hdx) ?_ hx⟩
  · exact (setH_ne hne).trans ix₁
  · refine setH_self.trans ?_
    simp only [setL, ofString_inj, String.reduceEq, if_true, if_false]
  · exact (setH_ne hrd).trans hr₁
  · exact (setH_ne hcd').trans hch₁
  · exact (setH_ne hkd).trans hkn₁
  · intro a ha
    simp only [BA.S, List.mem_cons, List.not_mem_nil, or_false] at ha
    rcases ha with rfl | rfl | rfl | rfl <;> assumption
end SSp8
section SSp9
variable {w : World} {base : Heap} {mg mb : Str → Option Value}
-- set_option profiler true
-- set_option profiler.threshold 1000
theorem F_small (G : (gx w base mg mb).Ok) {σ : Hp} {cs : Addr} {codes : List Code} {Q} (C : Codes [] σ cs codes) (hz : codes.length < 2) (hins : ∀ k ∈ codes, k.ins.length ≤ 100)
    (h : ∀ r, σ r = none → Q (.r r) (setH σ r (.list ((smallF codes).map insPV)))) : FnC (gx w base mg mb) 1 (.ref 121) [.r cs] σ Q := by
  refine FnC_def G [Str.ofString "codes"] (by exact rfl) (by kernel_rfl) (by (intro vs hvs; rcases vs with _ | ⟨a0, _ | ⟨a1, _ | ⟨a2, _ | ⟨a3, _ | ⟨a4, _ | ⟨a5, r⟩⟩⟩⟩⟩⟩ <;> first | (exfalso; simp at hvs; done) | rfl)) (by kernel_rfl) (by decide +kernel) ?_
  intro A F env O hsc
  dsimp only [List.zip, List.zipWith]
  obtain ⟨cxs, hcs, hlen, _, hget⟩ := C.get
  k_extra "w"
  k_extra "g"
  k_extra "w"
  refine Fn_len hcs (by lia) ?_
  k_extra "w"
  rw [hlen]
  clear hget
  match codes, hlen, C, hins, h with
  | [], hlen, C, hins, h =>
    k_extra "w"
    (first | refine ⟨[_], rfl, Nat.le_of_ble_eq_true rfl, ?_⟩ | refine ⟨[_, _], rfl, Nat.le_of_ble_eq_true rfl, ?_⟩ | refine ⟨[_, _, _], rfl, Nat.le_of_ble_eq_true rfl, ?_⟩ | refine ⟨[_, _, _, _], rfl, Nat.le_of_ble_eq_true rfl, ?_⟩ | refine ⟨[_, _, _, _, _], rfl, Nat.le_of_ble_eq_true rfl, ?_⟩)
    k_extra "w"
    refine ⟨Nat.le_of_ble_eq_true rfl, fun r hr => ?_⟩
    exact h r hr
  | k :: ks, hlen, C, hins, h =>
    obtain ⟨cxs', hcs', _, _, hget⟩ := C.get
    obtain rfl : cxs = cxs' := by rw [hcs] at hcs'; cases hcs'; rfl
    obtain ⟨a, ha, ca⟩ := hget (i := 0) rfl
    obtain ⟨dx, il, fn, u, i1, i2, i3, _, _, n3⟩ := ca.at_
    (with_reducible refine' Eq.mpr (if_neg ?z149n) ?z149h; (case z149n => ((try simp only [decide_eq_true_eq, Option.map_none, Option.isSome_none, Option.map_some, Option.isSome_some, Bool.false_eq_true, not_false_eq_true, List.length_cons, List.length_map, List.length_nil, Bool.not_eq_true]); first | done | lia | assumption)))
    k_extra "w"
    k_extra "g"
    k_extra "w"
    refine Op2_idxL hcs (by decide) (by decide) ha ?_
    (with_reducible refine' Op1_attr ?z150o ?z150ix ?z150ns ?z150lk ?z150hg ?z150hh ?z150ha ?z150h; (case z150o => assumption); (case z150ix => k_extra "sg"); (case z150ns => k_extra "sg"); (case z150lk => k_extra "lk"); (case z150hg => kernel_rfl); (case z150hh => kernel_rfl); (case z150ha => kernel_rfl))
    k_extra "w"
    have := hins k (.head _)
    refine Fn_list i3 (by rw [List.length_map]; lia) fun r hr => ?_
    exact h r hr
theorem F_all_variable (G : (gx w base mg mb).Ok) {σ : Hp} {cs : Addr} {codes : List Code} {Q} (C : Codes [] σ cs codes) (hz : codes.length ≤ 1000)
    (h : Q (.d (.bool (allVar codes))) σ) : FnC (gx w base mg mb) 1 (.ref 37) [.r cs] σ Q := by
  refine FnC_def G [Str.ofString "codes"] (by exact rfl) (by kernel_rfl) (by (intro vs hvs; rcases vs with _ | ⟨a0, _ | ⟨a1, _ | ⟨a2, _ | ⟨a3, _ | ⟨a4, _ | ⟨a5, r⟩⟩⟩⟩⟩⟩ <;> first | (exfalso; simp at hvs; done) | rfl)) (by kernel_rfl) (by decide +kernel) ?_
  intro A F env O hsc
  dsimp only [List.zip, List.zipWith]
  obtain ⟨cxs, hcs, hlen, _, hget⟩ := C.get
  k_extra "1"
  ((with_reducible refine' Ex1_For ?z152o ?z152h ?z152s); (case z152o => assumption); (case z152s => (intro _; rfl)))
  k_extra "w"
  obtain ⟨J, hJ⟩ : ∃ J : Nat → Loc → Hp → Prop, ∀ i l σ', J i l σ' ↔ (LocLe [(Str.ofString "codes", .r cs)] l ∧ σ' = σ ∧ allVar (codes.take i) = true) := ⟨_, fun _ _ _ => Iff.rfl⟩
  refine ⟨cxs, J, (hJ _ _ _).mpr ⟨by k_extra "lle", rfl, by simp [allVar]⟩, fun i l σ' hj => ?_, ?_, ?_⟩
  · obtain ⟨_, rfl, _⟩ := (hJ _ _ _).mp hj
    exact hcs
  · intro i l σ' v hv hj
    obtain ⟨hl, rfl, hall⟩ := (hJ _ _ _).mp hj
    refine Tg.weak hl ?_
    have hlt : i < codes.length := by rw [← hlen]; exact (List.getElem?_eq_some_iff.mp hv).1
    have hk : codes[i]? = some codes[i] := by simp [hlt]
    obtain ⟨a, ha, ca⟩ := hget hk
    rw [hv] at ha
    obtain rfl := Option.some.inj ha
    obtain ⟨dx, il, fn, u, i1, i2, i3, _, _, n3⟩ := ca.at_
    k_extra "w"
    (with_reducible refine' Op1_attr ?z153o ?z153ix ?z153ns ?z153lk ?z153hg ?z153hh ?z153ha ?z153h; (case z153o => assumption); (case z153ix => k_extra "sg"); (case z153ns => k_extra "sg"); (case z153lk => k_extra "lk"); (case z153hg => kernel_rfl); (case z153hh => kernel_rfl); (case z153ha => kernel_rfl))
    k_extra "w"
    refine Op2_ne O (Key.nice _) (Key.nice _) fun b hb => ⟨_, rfl, ?_⟩
    have hb' : b = true ↔ codes[i].key ≠ .var := by rw [hb, Ne, Key.inj]
    cases b with
    | true =>
      k_extra "w"
      have : allVar codes = false := by
        unfold allVar
        rw [← Bool.not_eq_true, List.all_eq_true]
        intro z
        have := z codes[i] (List.getElem_mem _)
        exact hb'.mp rfl (by simpa using this)
      rw [this] at h
      exact h
    | false =>
      k_extra "w"
      refine (hJ _ _ _).mpr ⟨by k_extra "lle", rfl, ?_⟩
      unfold allVar at hall ⊢
      rw [take_succ' hk, List.all_append, hall]
      have : codes[i].key = .var := Classical.byContradiction fun z => by have := hb'.mpr z; cases this
      simp [this]
  · intro l σ' hj
    obtain ⟨hl, rfl, hall⟩ := (hJ _ _ _).mp hj
    k_extra "w"
    rw [hlen, List.take_length] at hall
    rw [hall] at h
    exact h
theorem F_arity (G : (gx w base mg mb).Ok) {σ : Hp} {y : Addr} {f ar : Int} {Q} (Y : ArAt σ y f ar) (h : Q (intPV ar) σ) : FnC (gx w base mg mb) 1 (.ref 219) [.r y, intPV f] σ Q := by
  refine FnC_def G [Str.ofString "self", Str.ofString "functor"] (by exact rfl) (by kernel_rfl) (by (intro vs hvs; rcases vs with _ | ⟨a0, _ | ⟨a1, _ | ⟨a2, _ | ⟨a3, _ | ⟨a4, _ | ⟨a5, r⟩⟩⟩⟩⟩⟩ <;> first | (exfalso; simp at hvs; done) | rfl)) (by kernel_rfl) (by decide +kernel) ?_
  intro A F env O hsc
  dsimp only [List.zip, List.zipWith]
  obtain ⟨dy, fl, m, Fs, t, h1, h2, h3, _, h4, h5, h6, h7⟩ := Y.at_
  k_extra "w"
  refine Op1_attr O h1 h2 h3 (by kernel_rfl) (by kernel_rfl) (by kernel_rfl) ?_
  k_extra "w"
  refine Op2_idxL h4 h5 h6 h7 ?_
  k_extra "w"
  refine Op2_idxT (by decide) (by decide) (d := .int ar) rfl ?_
  exact h
theorem F_chain_block (G : (gx w base mg mb).Ok) {σ : Hp} {y cs : Addr} {f ar : Int} {codes : List Code} {Q} (Y : ArAt σ y f ar) (C : Codes [] σ cs codes) (hz : codes.length ≤ 8) (hins : ∀ k ∈ codes, k.ins.length ≤ 100)
    (h : ∀ r σ', σ r = none → σ' r = some (.list ((chainBlockF ar codes).map insPV)) → Ext [] σ σ' → Q (.r r) σ') : FnC (gx w base mg mb) 3 (.ref 128) [.r y, intPV f, .r cs] σ Q := by
  refine FnC_def G [Str.ofString "symbols", Str.ofString "functor", Str.ofString "codes"] (by exact rfl) (by kernel_rfl) (by (intro vs hvs; rcases vs with _ | ⟨a0, _ | ⟨a1, _ | ⟨a2, _ | ⟨a3, _ | ⟨a4, _ | ⟨a5, r⟩⟩⟩⟩⟩⟩ <;> first | (exfalso; simp at hvs; done) | rfl)) (by kernel_rfl) (by decide +kernel) ?_
  intro A F env O hsc
  dsimp only [List.zip, List.zipWith]
  obtain ⟨cxs, hcs, hlen, _, hget⟩ := C.get
  k_extra "w"
  k_extra "g"
  k_extra "w"
  refine Fn_len hcs (by lia) ?_
  k_extra "w"
  rw [hlen]
  by_cases h2 : codes.length < 2
  · (with_reducible refine' Eq.mpr (if_pos ?z156n) ?z156h; (case z156n => ((try simp only [decide_eq_true_eq, Option.map_none, Option.isSome_none, Option.map_some, Option.isSome_some, Bool.false_eq_true, not_false_eq_true, List.length_cons, List.length_map, List.length_nil, Bool.not_eq_true]); first | done | lia | assumption)))
    k_extra "w"
    k_extra "g"
    k_extra "w"
    refine (F_small G C h2 hins fun r hr => ?_).fn.up (by decide)
    refine h r _ hr ?_ (Ext.refl.setNew hr)
    rw [chainBlockF, if_pos h2]; exact setH_self
  · (with_reducible refine' Eq.mpr (if_neg ?z157n) ?z157h; (case z157n => ((try simp only [decide_eq_true_eq, Option.map_none, Option.isSome_none, Option.map_some, Option.isSome_some, Bool.false_eq_true, not_false_eq_true, List.length_cons, List.length_map, List.length_nil, Bool.not_eq_true]); first | done | lia | assumption)))
    k_extra "w"
    k_extra "g"
    k_extra "w"
    ((with_reducible refine' k_CallM ?z158o ?z158h ?z158e ?z158p); (case z158o => assumption); (case z158e => rfl); (case z158p => kernel_rfl))
    k_extra "w"
    obtain ⟨dy, fl, m, Fs, t, h1, h2', h3, h3', h4, h5, h6, h7⟩ := Y.at_
    refine ⟨_, _, _, _, 219, rfl, h1, h2', h3', by kernel_rfl, by kernel_rfl, by kernel_rfl, by kernel_rfl, ?_⟩
    k_extra "w"
    refine (F_arity G Y ?_).fn.up (by decide)
    k_extra "w"
    refine F_builder G hcs (by lia) fun σ₁ b hb B E₁ hS hx => ?_
    subst hb
    rw [hlen] at B
    have C₁ : Codes b.S σ₁ b.cs codes := (C.toS hS).ext (T := []) E₁ (by simp)
    obtain ⟨cxs1, hcs1, hlen1, _, _⟩ := C₁.get
    have ix := B.ix
    have ns := B.ns
    k_extra "w"
    ((with_reducible refine' rowsLoop_builder ?z159o ?z159k1 ?z159k2 ?z159h ?z159e ?z159s); (case z159o => assumption); (case z159k1 => k_extra "kd"); (case z159k2 => k_extra "kd"); (case z159e => rfl); (case z159s => (intro _; rfl)))
    ((with_reducible refine' k_CallM ?z160o ?z160h ?z160e ?z160p); (case z160o => assumption); (case z160e => rfl); (case z160p => kernel_rfl))
    k_extra "w"
    refine ⟨_, _, _, _, 65, rfl, ix, ns, by k_extra "lk", by kernel_rfl, by kernel_rfl, by kernel_rfl, by kernel_rfl, ?_⟩
    k_extra "w"
    k_extra "g"
    k_extra "w"
    k_extra "g"
    k_extra "w"
    k_extra "g"
    k_extra "w"
    refine Fn_len hcs1 (by lia) ?_
    rw [hlen1]
    k_extra "w"
    refine Fn_range1 ?_
    k_extra "w"
    refine Fn_listRange (by lia) (by lia) (by lia) (by lia) (by lia) fun pl hpl => ?_
    k_extra "w"
    refine (F_chain_rows G (pv := .r pl) (xs := upto 0 codes.length) (B.new hpl) setH_self (by rw [upto_length]; lia) (by rw [upto_length]; lia) fun r hr => ?_).fn.up (by decide)
    refine ⟨r, b, _, _, [(Str.ofString "builder", .r b.x)], rfl, setH_self, ?_, by k_extra "lle", by k_extra "lk", by k_extra "lk", (B.new hpl).new hr, ?_, fun l₂ σ₂ hl₂ B₂ E₂ => ?_⟩
    · exact (B.new hpl).new_notin hr
    · simp only [List.length_nil, chainRows, List.length_cons, List.length_append, List.length_map, List.length_dropLast, List.length_drop, upto_length]; lia
    refine Mine.Ex.weak hl₂ ?_
    have ix₂ := B₂.ix
    have ns₂ := B₂.ns
    have C₂ := ((C₁.new (mo := .list ((upto 0 codes.length).map fun i => .d (.int i))) hpl).new hr (mo := .list ((chainRows ar (upto 0 codes.length)).map insPV))).ext E₂ fun a h => .inr h
    have S₀ : Sized (addRows (initS ar codes) (chainRows ar (upto 0 codes.length))) 0 := ⟨by simp [addRows, initS], by simp [addRows, initS], by simp [addRows, initS]⟩
    k_extra "w"
    ((with_reducible refine' k_CallM ?z161o ?z161h ?z161e ?z161p); (case z161o => assumption); (case z161e => rfl); (case z161p => kernel_rfl))
    k_extra "w"
    refine ⟨_, _, _, _, 107, rfl, ix₂, ns₂, by k_extra "lk", by kernel_rfl, by kernel_rfl, by kernel_rfl, by kernel_rfl, ?_⟩
    k_extra "w"
    refine (F_finish G (s := addRows (initS ar codes) (chainRows ar (upto 0 codes.length))) B₂ C₂ S₀.two (by lia) (Nat.le_trans S₀.chains (by lia)) ?_ hins fun σ₃ B₃ E₃ => ?_).fn
    · simp only [addRows, initS, List.nil_append, chainRows, List.length_cons, List.length_append, List.length_map, List.length_dropLast, List.length_drop, upto_length, List.length_nil]; lia
    have hrw : σ b.rw = none := hS _ (by simp [BA.S])
    refine h b.rw σ₃ hrw ?_ ?_
    · rw [chainBlockF, if_neg h2]; exact B₃.rw
    · have E₁₁ : Ext b.S σ (setH (setH σ₁ pl (.list ((upto 0 codes.length).map fun i => .d (.int i)))) r (.list ((chainRows ar (upto 0 codes.length)).map insPV))) := ((E₁.mono (by simp)).new hpl).new hr
      exact ((E₁₁.trans E₂).trans E₃).nil hS
end SSp9
section SSp10
variable {w : World} {base : Heap} {mg mb : Str → Option Value}
-- set_option profiler true
-- set_option profiler.threshold 1000
theorem F_index_block (G : (gx w base mg mb).Ok) {σ : Hp} {y cs : Addr} {f ar : Int} {codes : List Code} {Q} (Y : ArAt σ y f ar) (C : Codes [] σ cs codes) (hz : codes.length ≤ 8) (hins : ∀ k ∈ codes, k.ins.length ≤ 100)
    (h : ∀ r σ', σ r = none → σ' r = some (.list ((indexBlockF ar codes).map insPV)) → Ext [] σ σ' → Q (.r r) σ') : FnC (gx w base mg mb) 5 (.ref 135) [.r y, intPV f, .r cs] σ Q := by
  refine FnC_def G [Str.ofString "symbols", Str.ofString "functor", Str.ofString "codes"] (by exact rfl) (by kernel_rfl) (by (intro vs hvs; rcases vs with _ | ⟨a0, _ | ⟨a1, _ | ⟨a2, _ | ⟨a3, _ | ⟨a4, _ | ⟨a5, r⟩⟩⟩⟩⟩⟩ <;> first | (exfalso; simp at hvs; done) | rfl)) (by kernel_rfl) (by decide +kernel) ?_
  intro A F env O hsc
  dsimp only [List.zip, List.zipWith]
  obtain ⟨cxs, hcs, hlen, _, hget⟩ := C.get
  obtain ⟨dy, fl, m, Fs, t, h1, h2', h3, h3', h4, h5, h6, h7⟩ := Y.at_
  k_extra "w"
  k_extra "g"
  k_extra "w"
  refine Fn_len hcs (by lia) ?_
  k_extra "w"
  rw [hlen]
  by_cases h2 : codes.length < 2
  · (with_reducible refine' Eq.mpr (if_pos ?z163n) ?z163h; (case z163n => ((try simp only [decide_eq_true_eq, Option.map_none, Option.isSome_none, Option.map_some, Option.isSome_some, Bool.false_eq_true, not_false_eq_true, List.length_cons, List.length_map, List.length_nil, Bool.not_eq_true]); first | done | lia | assumption)))
    k_extra "w"
    k_extra "g"
    k_extra "w"
    refine (F_small G C h2 hins fun r hr => ?_).fn.up (by decide)
    refine h r _ hr ?_ (Ext.refl.setNew hr)
    rw [indexBlockF, if_pos h2]; exact setH_self
  (with_reducible refine' Eq.mpr (if_neg ?z164n) ?z164h; (case z164n => ((try simp only [decide_eq_true_eq, Option.map_none, Option.isSome_none, Option.map_some, Option.isSome_some, Bool.false_eq_true, not_false_eq_true, List.length_cons, List.length_map, List.length_nil, Bool.not_eq_true]); first | done | lia | assumption)))
  refine Ex_nil ?_
  refine Ex_cons (Ex1_If (IsT.mono' (Q := fun b l σ' => l = [(Str.ofString "symbols", .r y), (Str.ofString "functor", intPV f), (Str.ofString "codes", .r cs)] ∧ σ = σ' ∧ b = decide (ar = 0 ∨ allVar codes = true)) ?_ ?_))
  · k_extra "w"
    ((with_reducible refine' k_CallM ?z165o ?z165h ?z165e ?z165p); (case z165o => assumption); (case z165e => rfl); (case z165p => kernel_rfl))
    k_extra "w"
    refine ⟨_, _, _, _, 219, rfl, h1, h2', h3', by kernel_rfl, by kernel_rfl, by kernel_rfl, by kernel_rfl, ?_⟩
    k_extra "w"
    refine (F_arity G Y ?_).fn.up (by decide)
    k_extra "w"
    by_cases ha : ar = 0
    · rw [decide_eq_true ha]
      k_extra "w"
      exact ⟨rfl, rfl, by simp [ha]⟩
    · rw [decide_eq_false ha]
      k_extra "w"
      ((with_reducible refine' k_plain ?z166h ?z166e); (case z166e => rfl))
      k_extra "g"
      k_extra "w"
      refine (F_all_variable G C (by lia) ⟨_, rfl, ?_⟩).fn.up (by decide)
      cases hv : allVar codes with
      | true =>
        k_extra "w"
        exact ⟨rfl, rfl, by simp⟩
      | false =>
        k_extra "w"
        exact ⟨rfl, rfl, by simp [ha]⟩
  rintro b l σ' ⟨rfl, rfl, rfl⟩
  by_cases hc : ar = 0 ∨ allVar codes = true
  · rw [decide_eq_true hc]
    k_extra "w"
    k_extra "g"
    k_extra "w"
    refine (F_chain_block G Y C hz hins fun r σ₁ hr h1 E => ?_).fn.up (by decide)
    refine h r σ₁ hr ?_ E
    rw [indexBlockF, if_neg h2, if_pos hc]; exact h1
  · rw [decide_eq_false hc]
    k_extra "w"
    k_extra "g"
    k_extra "w"
    ((with_reducible refine' k_CallM ?z167o ?z167h ?z167e ?z167p); (case z167o => assumption); (case z167e => rfl); (case z167p => kernel_rfl))
    k_extra "w"
    refine ⟨_, _, _, _, 219, rfl, h1, h2', h3', by kernel_rfl, by kernel_rfl, by kernel_rfl, by kernel_rfl, ?_⟩
    k_extra "w"
    refine (F_arity G Y ?_).fn.up (by decide)
    k_extra "w"
    refine Fn.up (F_builder G hcs (by lia) fun σ₁ b hb B E₁ hS hx => ?_) (by decide)
    subst hb
    rw [hlen] at B
    have C₁ : Codes b.S σ₁ b.cs codes := (C.toS hS).ext (T := []) E₁ (by simp)
    obtain ⟨cxs1, hcs1, hlen1, _, _⟩ := C₁.get
    have ix := B.ix
    have ns := B.ns
    k_extra "w"
    ((with_reducible refine' k_CallM ?z168o ?z168h ?z168e ?z168p); (case z168o => assumption); (case z168e => rfl); (case z168p => kernel_rfl))
    k_extra "w"
    refine ⟨_, _, _, _, 100, rfl, ix, ns, by k_extra "lk", by kernel_rfl, by kernel_rfl, by kernel_rfl, by kernel_rfl, ?_⟩
    k_extra "w"
    k_extra "g"
    k_extra "w"
    k_extra "g"
    k_extra "w"
    k_extra "g"
    k_extra "w"
    refine Fn_len hcs1 (by lia) ?_
    rw [hlen1]
    k_extra "w"
    refine Fn_range1 ?_
    k_extra "w"
    refine Fn_listRange (by lia) (by lia) (by lia) (by lia) (by lia) fun pl hpl => ?_
    k_extra "w"
    refine (F_switch G (s := initS ar codes) (ps := upto 0 codes.length) (B.new hpl) (C₁.new hpl) setH_self (B.new_notin hpl) inR_upto (by rw [upto_length]; lia) (by lia) (by simp [initS]) (by simp [initS]) (by simp [initS]) fun σ₂ B₂ E₂ => ?_).fn
    refine ⟨trivial, ?_⟩
    have ix₂ := B₂.ix
    have ns₂ := B₂.ns
    have C₂ := (C₁.new (mo := .list ((upto 0 codes.length).map fun i => .d (.int i))) hpl).ext E₂ fun a h => .inr h
    have S₀ : Sized (initS ar codes) 0 := ⟨by simp [initS], by simp [initS], by simp [initS]⟩
    have S₁ := (S₀.switch (codes := codes) (ps := upto 0 codes.length) (by rw [upto_length]; lia)).rows (r := (switchF codes (upto 0 codes.length) (initS ar codes)).1)
    have hul : (upto 0 codes.length).length ≤ 8 := by rw [upto_length]; lia
    have hrws := switchF_rows (codes := codes) (ps := upto 0 codes.length) (s := initS ar codes)
    k_extra "w"
    ((with_reducible refine' k_CallM ?z169o ?z169h ?z169e ?z169p); (case z169o => assumption); (case z169e => rfl); (case z169p => kernel_rfl))
    k_extra "w"
    refine ⟨_, _, _, _, 107, rfl, ix₂, ns₂, by k_extra "lk", by kernel_rfl, by kernel_rfl, by kernel_rfl, by kernel_rfl, ?_⟩
    k_extra "w"
    refine (F_finish G B₂ C₂ S₁.two (by lia) (Nat.le_trans S₁.chains (by lia)) ?_ hins fun σ₃ B₃ E₃ => ?_).fn.up (by decide)
    · simp only [addRows, List.length_append]
      rw [hrws.2.1]
      simp only [initS, List.length_nil]
      have := hrws.1
      simp only [initS] at this
      lia
    have hrw : σ b.rw = none := hS _ (by simp [BA.S])
    refine h b.rw σ₃ hrw ?_ ?_
    · rw [indexBlockF, if_neg h2, if_neg hc]; exact B₃.rw
    · have E₁₁ : Ext b.S σ (setH σ₁ pl (.list ((upto 0 codes.length).map fun i => .d (.int i)))) := (E₁.mono (by simp)).new hpl
      exact ((E₁₁.trans E₂).trans E₃).nil hS
end SSp10
section SSp11
variable {w : World} {base : Heap} {mg mb : Str → Option Value}
-- set_option profiler true
-- set_option profiler.threshold 1000
structure GInv (σ₀ σ : Hp) (gl : Addr) (gas : List Addr) (ra : Addr) (gs : List (List Int)) (run : List Int) : Prop where
  hgl : σ gl = some (.list (gas.map .r))
  hra : σ ra = some (.list (run.map intPV))
  all : All2 (fun g ps => σ g = some (.list (ps.map intPV)) ∧ σ₀ g = none ∧ g ≠ gl ∧ g ≠ ra) gas gs
  E : Ext [] σ₀ σ
  ra0 : σ₀ ra = none
  gl0 : σ₀ gl = none
  ne : ra ≠ gl
theorem GInv.push {σ₀ σ : Hp} {gl ra ra' : Addr} {gas : List Addr} {gs : List (List Int)} {run : List Int} (I : GInv σ₀ σ gl gas ra gs run) (h : (setH σ gl (.list (gas.map .r ++ [.r ra]))) ra' = none) :
    GInv σ₀ (setH (setH σ gl (.list (gas.map .r ++ [.r ra]))) ra' (.list [])) gl (gas ++ [ra]) ra' (gs ++ [run]) [] := by
  have hg : ra' ≠ gl := fun e => by rw [e, setH_self] at h; cases h
  rw [setH_ne hg] at h
  have hr : ra' ≠ ra := fun e => by rw [e, I.hra] at h; cases h
  have h0 : σ₀ ra' = none := by
    cases q : σ₀ ra' with
    | none => rfl
    | some mo => have := I.E _ _ (by simp) q; rw [h] at this; cases this
  refine ⟨?_, setH_self, ?_, (I.E.setNew I.gl0).setNew h0, h0, I.gl0, hg⟩
  · rw [setH_ne hg.symm, setH_self, List.map_append]; rfl
  · refine All2.append (I.all.mono fun g ps ⟨h1, h2, h3, h4⟩ => ?_) (.cons ?_ .nil)
    · have hgr : g ≠ ra' := fun e => by rw [e, h] at h1; cases h1
      exact ⟨by rw [setH_ne hgr, setH_ne h3]; exact h1, h2, h3, hgr⟩
    · exact ⟨by rw [setH_ne hr.symm, setH_ne I.ne]; exact I.hra, I.ra0, I.ne, hr.symm⟩
theorem GInv.one {σ₀ σ : Hp} {gl ra ga : Addr} {gas : List Addr} {gs : List (List Int)} {run ps : List Int} (I : GInv σ₀ σ gl gas ra gs run) (h : σ ga = none) :
    GInv σ₀ (setH (setH σ ga (.list (ps.map intPV))) gl (.list (gas.map .r ++ [.r ga]))) gl (gas ++ [ga]) ra (gs ++ [ps]) run := by
  have hg : ga ≠ gl := fun e => by rw [e, I.hgl] at h; cases h
  have hr : ga ≠ ra := fun e => by rw [e, I.hra] at h; cases h
  have h0 : σ₀ ga = none := by
    cases q : σ₀ ga with
    | none => rfl
    | some mo => have := I.E _ _ (by simp) q; rw [h] at this; cases this
  refine ⟨?_, ?_, ?_, (I.E.setNew h0).setNew I.gl0, I.ra0, I.gl0, I.ne⟩
  · rw [setH_self, List.map_append]; rfl
  · rw [setH_ne I.ne, setH_ne hr.symm]; exact I.hra
  · refine All2.append (I.all.mono fun g ps ⟨h1, h2, h3, h4⟩ => ?_) (.cons ?_ .nil)
    · have hgr : g ≠ ga := fun e => by rw [e, h] at h1; cases h1
      exact ⟨by rw [setH_ne h3, setH_ne hgr]; exact h1, h2, h3, h4⟩
    · exact ⟨by rw [setH_ne hg]; exact setH_self, h0, hg, hr⟩
theorem GInv.run {σ₀ σ : Hp} {gl ra : Addr} {gas : List Addr} {gs : List (List Int)} {run : List Int} {p : Int} (I : GInv σ₀ σ gl gas ra gs run) :
    GInv σ₀ (setH σ ra (.list (run.map intPV ++ [intPV p]))) gl gas ra gs (run ++ [p]) := by
  refine ⟨?_, ?_, I.all.mono fun g ps ⟨h1, h2, h3, h4⟩ => ⟨by rw [setH_ne h4]; exact h1, h2, h3, h4⟩, I.E.setNew I.ra0, I.ra0, I.gl0, I.ne⟩
  · rw [setH_ne I.ne.symm]; exact I.hgl
  · rw [setH_self, List.map_append]; rfl
/-- sizes of the parts -/
theorem groupFold_len {codes : List Code} : ∀ (ps : List Int) (a : List (List Int) × List Int), (ps.foldl (groupStep codes) a).1.length ≤ a.1.length + 2 * ps.length ∧ (ps.foldl (groupStep codes) a).2.length ≤ a.2.length + ps.length
  | [], a => by simp
  | p :: ps, a => by
    have h := groupFold_len (codes := codes) ps (groupStep codes a p)
    have h2 : (groupStep codes a p).1.length ≤ a.1.length + 2 ∧ (groupStep codes a p).2.length ≤ a.2.length + 1 := by
      unfold groupStep
      split
      · constructor
        · split <;> simp
        · simp
      · simp
    simp only [List.foldl_cons, List.length_cons]
    lia
theorem F_clause_groups (G : (gx w base mg mb).Ok) {σ : Hp} {cs : Addr} {codes : List Code} {Q} (C : Codes [] σ cs codes) (hz : codes.length ≤ 8)
    (h : ∀ σ' gl gas, σ gl = none → σ' gl = some (.list (gas.map .r)) → All2 (fun g ps => σ' g = some (.list (ps.map intPV)) ∧ σ g = none ∧ g ≠ gl) gas (groupsF codes) → Ext [] σ σ' → Q (.r gl) σ') : FnC (gx w base mg mb) 1 (.ref 142) [.r cs] σ Q := by
  refine FnC_def G [Str.ofString "codes"] (by exact rfl) (by kernel_rfl) (by (intro vs hvs; rcases vs with _ | ⟨a0, _ | ⟨a1, _ | ⟨a2, _ | ⟨a3, _ | ⟨a4, _ | ⟨a5, r⟩⟩⟩⟩⟩⟩ <;> first | (exfalso; simp at hvs; done) | rfl)) (by kernel_rfl) (by decide +kernel) ?_
  intro A F env O hsc
  dsimp only [List.zip, List.zipWith]
  obtain ⟨cxs, hcs, hlen, _, hget⟩ := C.get
  k_extra "w"
  refine ⟨Nat.zero_le _, fun gl hgl => ?_⟩
  k_extra "w"
  refine ⟨Nat.zero_le _, fun ra hra => ?_⟩
  have hrg : ra ≠ gl := fun e => by rw [e, setH_self] at hra; cases hra
  have hra0 : σ ra = none := by rw [setH_ne hrg] at hra; exact hra
  have I₀ : GInv σ (setH (setH σ gl (.list [])) ra (.list [])) gl [] ra [] [] :=
    ⟨by rw [setH_ne hrg.symm]; exact setH_self, setH_self, .nil, (Ext.refl.setNew hgl).setNew hra0, hra0, hgl, hrg⟩
  have hcs0 := I₀.E _ _ (by simp) hcs
  generalize setH (setH σ gl (.list [])) ra (.list []) = σ₀ at *
  k_extra "w"
  obtain ⟨a₁, ha₁⟩ : ∃ a, a = (upto 0 codes.length).foldl (groupStep codes) ([], []) := ⟨_, rfl⟩
  have la₁ := groupFold_len (codes := codes) (upto 0 codes.length) ([], [])
  rw [← ha₁] at la₁
  simp only [List.length_nil, Nat.zero_add, upto_length] at la₁
  refine Ex1_cut (fun l σ' => ∃ gas ra, LocLe [(Str.ofString "groups", .r gl), (Str.ofString "run", .r ra)] l ∧ GInv σ σ' gl gas ra a₁.1 a₁.2) ?_ ?_
  · ((with_reducible refine' Ex1_For ?z171o ?z171h ?z171s); (case z171o => assumption); (case z171s => (intro _; rfl)))
    k_extra "g"
    k_extra "w"
    k_extra "g"
    k_extra "w"
    refine Fn_len hcs0 (by lia) ?_
    rw [hlen]
    k_extra "w"
    obtain ⟨J, hJ⟩ : ∃ J : Nat → Loc → Hp → Prop, ∀ i l σ', J i l σ' ↔ (∃ gas ra a, LocLe [(Str.ofString "codes", .r cs), (Str.ofString "groups", .r gl), (Str.ofString "run", .r ra)] l ∧
      a = ((upto 0 codes.length).take i).foldl (groupStep codes) ([], []) ∧ GInv σ σ' gl gas ra a.1 a.2) := ⟨_, fun _ _ _ => Iff.rfl⟩
    refine Fn_range1 ⟨(upto 0 codes.length).map fun i => .d (.int i), J, (hJ _ _ _).mpr ⟨[], ra, _, ?_, rfl, I₀⟩, fun i l σ' hj => items_rng (by lia) (by lia) (by lia) (by lia), ?_, ?_⟩
    · k_extra "lle"
    · intro i l σ' v hv hj
      obtain ⟨gas, ra, a, hl, ea, I⟩ := (hJ _ _ _).mp hj
      refine Tg.weak hl ?_
      obtain ⟨rfl, hi⟩ := upto_get hv
      have hlt : i < codes.length := by lia
      have hp : (upto 0 codes.length)[i]? = some (0 + (i : Int)) := by
        simp only [upto, List.getElem?_map]
        rw [List.getElem?_range (by lia)]; rfl
      have hk : codes[i]? = some codes[i] := by simp [hlt]
      have hkey : keyAt codes (0 + (i : Int)) = codes[i].key := by
        rw [Int.zero_add]
        simp [keyAt, hlt]
      have estep := foldl_take_succ (f := groupStep codes) (a := ([], [])) hp
      rw [← ea] at estep
      have la := groupFold_len (codes := codes) ((upto 0 codes.length).take i) ([], [])
      rw [← ea, List.length_take, upto_length] at la
      simp only [List.length_nil, Nat.zero_add] at la
      have hgal : gas.length = a.1.length := I.all.length
      obtain ⟨ca, hca, cat⟩ := hget hk
      obtain ⟨dx, il, fn, u, i1, i2, i3, _, _, n3⟩ := cat.at_
      have hcs' := I.E _ _ (by simp) hcs
      have i1' := I.E _ _ (by simp) i1
      have i2' := I.E _ _ (by simp) i2
      k_extra "w"
      refine Op2_idxL hcs' (by lia) (by lia) (by rw [show (0 + (i : Int)).toNat = i by lia]; exact hca) ?_
      (with_reducible refine' Op1_attr ?z172o ?z172ix ?z172ns ?z172lk ?z172hg ?z172hh ?z172ha ?z172h; (case z172o => assumption); (case z172ix => k_extra "sg"); (case z172ns => k_extra "sg"); (case z172lk => k_extra "lk"); (case z172hg => kernel_rfl); (case z172hh => kernel_rfl); (case z172ha => kernel_rfl))
      k_extra "w"
      refine Op2_eq O (Key.nice _) (Key.nice _) fun b hb => ⟨_, rfl, ?_⟩
      have hb' : b = true ↔ keyAt codes (0 + (i : Int)) = .var := by rw [hb, Key.inj, hkey]
      clear hb
      cases b with
      | true =>
        have hv' := hb'.mp rfl
        k_extra "1"
        refine Ex_cut (fun l σ'' => ∃ gas ra, LocLe [(Str.ofString "codes", .r cs), (Str.ofString "groups", .r gl), (Str.ofString "run", .r ra), (Str.ofString "place", intPV (0 + (i : Int)))] l ∧
          GInv σ σ'' gl gas ra (if 0 < a.2.length then a.1 ++ [a.2] else a.1) [] ∧ gas.length ≤ 30) ?_ ?_
        · k_extra "w"
          k_extra "g"
          k_extra "w"
          refine Fn_len I.hra (by rw [List.length_map]; lia) ?_
          k_extra "w"
          rw [List.length_map]
          by_cases hr : 0 < a.2.length
          · rw [if_pos hr]
            (with_reducible refine' Eq.mpr (if_pos ?z173n) ?z173h; (case z173n => ((try simp only [decide_eq_true_eq, Option.map_none, Option.isSome_none, Option.map_some, Option.isSome_some, Bool.false_eq_true, not_false_eq_true, List.length_cons, List.length_map, List.length_nil, Bool.not_eq_true]); first | done | lia | assumption)))
            have hgg := I.hgl
            k_extra "w"
            refine ⟨_, I.hgl, by rw [List.length_map]; lia, ?_⟩
            k_extra "w"
            refine ⟨Nat.zero_le _, fun ra' hra' => ?_⟩
            k_extra "w"
            exact ⟨rfl, gas ++ [ra], ra', by k_extra "lle", I.push hra', by rw [List.length_append]; simp; lia⟩
          · rw [if_neg hr]
            (with_reducible refine' Eq.mpr (if_neg ?z174n) ?z174h; (case z174n => ((try simp only [decide_eq_true_eq, Option.map_none, Option.isSome_none, Option.map_some, Option.isSome_some, Bool.false_eq_true, not_false_eq_true, List.length_cons, List.length_map, List.length_nil, Bool.not_eq_true]); first | done | lia | assumption)))
            k_extra "w"
            have : a.2 = [] := List.eq_nil_of_length_eq_zero (by lia)
            rw [this] at I
            exact ⟨rfl, gas, ra, by k_extra "lle", I, by lia⟩
        · rintro l₂ σ₂ ⟨gas₂, ra₂, hl₂, I₂, hgl₂⟩
          refine Mine.Ex.weak hl₂ ?_
          have hgg := I₂.hgl
          k_extra "w"
          refine ⟨Nat.le_of_ble_eq_true rfl, fun ga hga => ?_⟩
          k_extra "w"
          refine ⟨_, setH_new hga I₂.hgl, by rw [List.length_map]; lia, ?_⟩
          k_extra "w"
          refine (hJ _ _ _).mpr ⟨gas₂ ++ [ga], ra₂, _, by k_extra "lle", rfl, ?_⟩
          rw [estep, groupStep, if_pos hv']
          exact I₂.one (ps := [0 + (i : Int)]) hga
      | false =>
        have hv' : ¬ keyAt codes (0 + (i : Int)) = .var := fun z => by have := hb'.mpr z; cases this
        have hrr := I.hra
        k_extra "w"
        refine ⟨_, I.hra, by rw [List.length_map]; lia, ?_⟩
        k_extra "w"
        refine (hJ _ _ _).mpr ⟨gas, ra, _, by k_extra "lle", rfl, ?_⟩
        rw [estep, groupStep, if_neg hv']
        exact I.run
    · intro l σ' hj
      obtain ⟨gas, ra, a, hl, ea, I⟩ := (hJ _ _ _).mp hj
      rw [upto_len, ← upto_length, List.take_length] at ea
      have : a = a₁ := ea.trans ha₁.symm
      subst this
      exact ⟨rfl, gas, ra, fun x pv e => hl x pv (by
        have h1 : LocLe [(Str.ofString "groups", PV.r gl), (Str.ofString "run", PV.r ra)] [(Str.ofString "codes", PV.r cs), (Str.ofString "groups", .r gl), (Str.ofString "run", .r ra)] := by k_extra "lle"
        exact h1 x pv e), I⟩
  rintro l₃ σ₃ ⟨gas, ra₃, hl₃, I⟩
  refine Mine.Ex.weak hl₃ ?_
  have hgal : gas.length = a₁.1.length := I.all.length
  have hgg := I.hgl
  k_extra "w"
  k_extra "g"
  k_extra "w"
  refine Fn_len I.hra (by rw [List.length_map]; lia) ?_
  k_extra "w"
  rw [List.length_map]
  have eg : groupsF codes = groupEnd a₁ := by rw [ha₁]; rfl
  by_cases hr : 0 < a₁.2.length
  · (with_reducible refine' Eq.mpr (if_pos ?z175n) ?z175h; (case z175n => ((try simp only [decide_eq_true_eq, Option.map_none, Option.isSome_none, Option.map_some, Option.isSome_some, Bool.false_eq_true, not_false_eq_true, List.length_cons, List.length_map, List.length_nil, Bool.not_eq_true]); first | done | lia | assumption)))
    k_extra "w"
    refine ⟨_, I.hgl, by rw [List.length_map]; lia, ?_⟩
    k_extra "w"
    refine h _ gl (gas ++ [ra₃]) hgl (by rw [setH_self, List.map_append]; rfl) ?_ (I.E.setNew hgl)
    rw [eg, groupEnd, if_pos hr]
    refine All2.append (I.all.mono fun g ps ⟨h1, h2, h3, h4⟩ => ⟨by rw [setH_ne h3]; exact h1, h2, h3⟩) (.cons ⟨by rw [setH_ne I.ne]; exact I.hra, I.ra0, I.ne⟩ .nil)
  · (with_reducible refine' Eq.mpr (if_neg ?z176n) ?z176h; (case z176n => ((try simp only [decide_eq_true_eq, Option.map_none, Option.isSome_none, Option.map_some, Option.isSome_some, Bool.false_eq_true, not_false_eq_true, List.length_cons, List.length_map, List.length_nil, Bool.not_eq_true]); first | done | lia | assumption)))
    k_extra "w"
    refine h _ gl gas hgl I.hgl ?_ I.E
    rw [eg, groupEnd, if_neg hr]
    exact I.all.mono fun g ps ⟨h1, h2, h3, h4⟩ => ⟨h1, h2, h3⟩
end SSp11
section SSp12
variable {w : World} {base : Heap} {mg mb : Str → Option Value}
-- set_option profiler true
-- set_option profiler.threshold 1000
theorem groupFold_flat {codes : List Code} : ∀ (ps : List Int) (a : List (List Int) × List Int), (ps.foldl (groupStep codes) a).1.flatten ++ (ps.foldl (groupStep codes) a).2 = a.1.flatten ++ a.2 ++ ps
  | [], a => by simp
  | p :: ps, a => by
    rw [List.foldl_cons, groupFold_flat ps]
    unfold groupStep
    split
    · split
      · simp
      · rename_i h
        have : a.2 = [] := List.eq_nil_of_length_eq_zero (by lia)
        simp [this]
    · simp
theorem groupsF_flat {codes : List Code} : (groupsF codes).flatten = upto 0 codes.length := by
  have h := groupFold_flat (codes := codes) (upto 0 codes.length) ([], [])
  simp only [List.flatten_nil, List.nil_append] at h
  rw [groupsF, groupEnd]
  split
  · rw [List.flatten_append]; simpa using h
  · rename_i h2
    have : ((upto 0 codes.length).foldl (groupStep codes) ([], [])).2 = [] := List.eq_nil_of_length_eq_zero (by lia)
    rw [this] at h
    simpa using h
theorem groupFold_ne {codes : List Code} : ∀ (ps : List Int) (a : List (List Int) × List Int), (∀ g ∈ a.1, g ≠ []) → ∀ g ∈ (ps.foldl (groupStep codes) a).1, g ≠ []
  | [], a, h => h
  | p :: ps, a, h => by
    refine groupFold_ne ps _ ?_
    unfold groupStep
    split
    · intro g hg
      rcases List.mem_append.mp hg with hg | hg
      · split at hg
        · rename_i h2
          rcases List.mem_append.mp hg with hg | hg
          · exact h g hg
          · rw [List.mem_singleton.mp hg]; intro z; rw [z] at h2; simp at h2
        · exact h g hg
      · rw [List.mem_singleton.mp hg]; simp
    · exact h
theorem groupsF_ne {codes : List Code} : ∀ g ∈ groupsF codes, g ≠ [] := by
  have h := groupFold_ne (codes := codes) (upto 0 codes.length) ([], []) (by simp)
  rw [groupsF, groupEnd]
  split
  · rename_i h2
    intro g hg
    rcases List.mem_append.mp hg with hg | hg
    · exact h g hg
    · rw [List.mem_singleton.mp hg]; intro z; rw [z] at h2; simp at h2
  · exact h
theorem flatten_len {gs : List (List Int)} (h : ∀ g ∈ gs, g ≠ []) : gs.length ≤ gs.flatten.length := by
  induction gs with
  | nil => simp
  | cons g gs ih =>
    have := ih fun g hg => h g (.tail _ hg)
    have h1 : 0 < g.length := by
      cases g with
      | nil => exact absurd rfl (h _ (.head _))
      | cons a b => simp
    simp only [List.length_cons, List.flatten_cons, List.length_append]
    lia
theorem mem_flatten_len {gs : List (List Int)} {g : List Int} (h : g ∈ gs) : g.length ≤ gs.flatten.length := by
  induction gs with
  | nil => cases h
  | cons a gs ih =>
    simp only [List.flatten_cons, List.length_append]
    rcases List.mem_cons.mp h with rfl | h
    · lia
    · have := ih h; lia
theorem groupsF_inR {codes : List Code} {g : List Int} (h : g ∈ groupsF codes) : InR codes g := fun p hp => by
  refine inR_upto (codes := codes) p ?_
  rw [← groupsF_flat]
  exact List.mem_flatten.mpr ⟨g, h, hp⟩
theorem labelFold_same : ∀ (gs : List (List Int)) (a : List Int × BS), (gs.foldl labelStep a).1.length = a.1.length + gs.length ∧ (gs.foldl labelStep a).2.rows = a.2.rows ∧ (gs.foldl labelStep a).2.ar = a.2.ar ∧ (gs.foldl labelStep a).2.known = a.2.known ∧ (gs.foldl labelStep a).2.chains = a.2.chains
  | [], a => ⟨rfl, rfl, rfl, rfl, rfl⟩
  | g :: gs, a => by
    have h := labelFold_same gs (labelStep a g)
    have h2 : (labelStep a g).1.length = a.1.length + 1 ∧ (labelStep a g).2.rows = a.2.rows ∧ (labelStep a g).2.ar = a.2.ar ∧ (labelStep a g).2.known = a.2.known ∧ (labelStep a g).2.chains = a.2.chains := by
      unfold labelStep
      split <;> simp
    rw [List.foldl_cons, List.length_cons]
    refine ⟨by lia, h.2.1.trans h2.2.1, h.2.2.1.trans h2.2.2.1, h.2.2.2.1.trans h2.2.2.2.1, h.2.2.2.2.trans h2.2.2.2.2⟩
theorem gswitch_sized {codes : List Code} : ∀ (qs : List (List Int × Int)) (s : BS) {n m : Nat}, (∀ q ∈ qs, q.1.length ≤ 8) → Sized s n → s.rows.length ≤ m → Sized (qs.foldl (gswitchStep codes) s) (n + 19 * qs.length) ∧ (qs.foldl (gswitchStep codes) s).rows.length ≤ m + 6 * qs.length
  | [], s, n, m, _, h, h2 => ⟨h, h2⟩
  | q :: qs, s, n, m, hq, h, h2 => by
    have hq0 := hq q (.head _)
    have h3 : Sized (gswitchStep codes s q) (n + 19) ∧ (gswitchStep codes s q).rows.length ≤ m + 6 := by
      unfold gswitchStep
      split
      · refine ⟨((h.rows.switch (by lia)).rows).mono (by lia), ?_⟩
        have := switchF_rows (codes := codes) (ps := q.1) (s := addRows s [.label q.2])
        simp only [addRows, List.length_append] at this ⊢
        rw [this.2.1]
        simp only [List.length_append, List.length_cons, List.length_nil]
        lia
      · exact ⟨h.mono (by lia), by lia⟩
    have := gswitch_sized (codes := codes) qs _ (fun q hq' => hq q (.tail _ hq')) h3.1 h3.2
    rw [List.foldl_cons, List.length_cons]
    exact ⟨this.1.mono (by lia), by lia⟩
set_option maxHeartbeats 8000000 in
theorem F_group_block (G : (gx w base mg mb).Ok) {σ : Hp} {y cs : Addr} {f ar : Int} {codes : List Code} {Q} (Y : ArAt σ y f ar) (C : Codes [] σ cs codes) (hz : codes.length ≤ 8) (hins : ∀ k ∈ codes, k.ins.length ≤ 100)
    (h : ∀ r σ', σ r = none → σ' r = some (.list ((groupBlockF ar codes).map insPV)) → Ext [] σ σ' → Q (.r r) σ') : FnC (gx w base mg mb) 5 (.ref 149) [.r y, intPV f, .r cs] σ Q := by
  refine FnC_def G [Str.ofString "symbols", Str.ofString "functor", Str.ofString "codes"] (by exact rfl) (by kernel_rfl) (by (intro vs hvs; rcases vs with _ | ⟨a0, _ | ⟨a1, _ | ⟨a2, _ | ⟨a3, _ | ⟨a4, _ | ⟨a5, r⟩⟩⟩⟩⟩⟩ <;> first | (exfalso; simp at hvs; done) | rfl)) (by kernel_rfl) (by decide +kernel) ?_
  intro A F env O hsc
  dsimp only [List.zip, List.zipWith]
  obtain ⟨cxs, hcs, hlen, _, hget⟩ := C.get
  obtain ⟨dy, fl, m, Fs, t, h1, h2', h3, h3', h4, h5, h6, h7⟩ := Y.at_
  k_extra "w"
  k_extra "g"
  k_extra "w"
  refine Fn_len hcs (by lia) ?_
  k_extra "w"
  rw [hlen]
  by_cases h2 : codes.length < 2
  · (with_reducible refine' Eq.mpr (if_pos ?z178n) ?z178h; (case z178n => ((try simp only [decide_eq_true_eq, Option.map_none, Option.isSome_none, Option.map_some, Option.isSome_some, Bool.false_eq_true, not_false_eq_true, List.length_cons, List.length_map, List.length_nil, Bool.not_eq_true]); first | done | lia | assumption)))
    k_extra "w"
    k_extra "g"
    k_extra "w"
    refine (F_small G C h2 hins fun r hr => ?_).fn.up (by decide)
    refine h r _ hr ?_ (Ext.refl.setNew hr)
    rw [groupBlockF, if_pos h2]; exact setH_self
  (with_reducible refine' Eq.mpr (if_neg ?z179n) ?z179h; (case z179n => ((try simp only [decide_eq_true_eq, Option.map_none, Option.isSome_none, Option.map_some, Option.isSome_some, Bool.false_eq_true, not_false_eq_true, List.length_cons, List.length_map, List.length_nil, Bool.not_eq_true]); first | done | lia | assumption)))
  refine Ex_nil ?_
  refine Ex_cons (Ex1_If (IsT.mono' (Q := fun b l σ' => l = [(Str.ofString "symbols", .r y), (Str.ofString "functor", intPV f), (Str.ofString "codes", .r cs)] ∧ σ = σ' ∧ b = decide (ar = 0 ∨ allVar codes = true)) ?_ ?_))
  · k_extra "w"
    ((with_reducible refine' k_CallM ?z180o ?z180h ?z180e ?z180p); (case z180o => assumption); (case z180e => rfl); (case z180p => kernel_rfl))
    k_extra "w"
    refine ⟨_, _, _, _, 219, rfl, h1, h2', h3', by kernel_rfl, by kernel_rfl, by kernel_rfl, by kernel_rfl, ?_⟩
    k_extra "w"
    refine (F_arity G Y ?_).fn.up (by decide)
    k_extra "w"
    by_cases ha : ar = 0
    · rw [decide_eq_true ha]
      k_extra "w"
      exact ⟨rfl, rfl, by simp [ha]⟩
    · rw [decide_eq_false ha]
      k_extra "w"
      ((with_reducible refine' k_plain ?z181h ?z181e); (case z181e => rfl))
      k_extra "g"
      k_extra "w"
      refine (F_all_variable G C (by lia) ⟨_, rfl, ?_⟩).fn.up (by decide)
      cases hv : allVar codes with
      | true =>
        k_extra "w"
        exact ⟨rfl, rfl, by simp⟩
      | false =>
        k_extra "w"
        exact ⟨rfl, rfl, by simp [ha]⟩
  rintro b l σ' ⟨rfl, rfl, rfl⟩
  by_cases hc : ar = 0 ∨ allVar codes = true
  · rw [decide_eq_true hc]
    k_extra "w"
    k_extra "g"
    k_extra "w"
    refine (F_chain_block G Y C hz hins fun r σ₁ hr h1 E => ?_).fn.up (by decide)
    refine h r σ₁ hr ?_ E
    rw [groupBlockF, if_neg h2, if_pos hc]; exact h1
  rw [decide_eq_false hc]
  k_extra "w"
  k_extra "g"
  k_extra "w"
  ((with_reducible refine' k_CallM ?z182o ?z182h ?z182e ?z182p); (case z182o => assumption); (case z182e => rfl); (case z182p => kernel_rfl))
  k_extra "w"
  refine ⟨_, _, _, _, 219, rfl, h1, h2', h3', by kernel_rfl, by kernel_rfl, by kernel_rfl, by kernel_rfl, ?_⟩
  k_extra "w"
  refine (F_arity G Y ?_).fn.up (by decide)
  k_extra "w"
  refine Fn.up (F_builder G hcs (by lia) fun σ₁ b hb B E₁ hS hx => ?_) (by decide)
  subst hb
  rw [hlen] at B
  have hrw : σ b.rw = none := hS _ (by simp [BA.S])
  have C₁ : Codes b.S σ₁ b.cs codes := (C.toS hS).ext (T := []) E₁ (by simp)
  have C₁0 : Codes [] σ₁ b.cs codes := C.ext (T := []) E₁ (by simp)
  k_extra "w"
  k_extra "g"
  k_extra "w"
  obtain ⟨gs, hgs⟩ : ∃ gs, gs = groupsF codes := ⟨_, rfl⟩
  refine (F_clause_groups G C₁0 hz fun σ₂ gl gas hgl0 hgl hgas E₂ => ?_).fn.up (by decide)
  rw [← hgs] at hgas
  have hgal := hgas.length
  have hne : ∀ g ∈ gs, g ≠ [] := by rw [hgs]; exact groupsF_ne
  have hfl : gs.flatten = upto 0 codes.length := by rw [hgs]; exact groupsF_flat
  have hgn : gs.length ≤ codes.length := by
    have := flatten_len hne
    rw [hfl, upto_length] at this; lia
  have hg8 : ∀ g ∈ gs, g.length ≤ 8 := fun g hg => by
    have := mem_flatten_len hg
    rw [hfl, upto_length] at this; lia
  have hglS := B.new_notin hgl0
  have B₂ : Bld σ₂ b (initS ar codes) := B.ext (T := []) E₂ (by simp)
  have C₂ : Codes b.S σ₂ b.cs codes := C₁.ext (T := []) E₂ (by simp)
  have hgas' : All2 (fun g ps => σ₂ g = some (.list (ps.map intPV)) ∧ g ∉ b.S) gas gs := hgas.mono fun g ps ⟨a1, a2, a3⟩ => ⟨a1, B.new_notin a2⟩
  have EE₂ : Ext b.S σ σ₂ := (E₁.mono (by simp)).trans (E₂.mono (by simp))
  have ix₂ := B₂.ix
  have ns₂ := B₂.ns
  clear hgas E₂ E₁ B C₁ C₁0 h1 h2' h3 h3' h4 h5 h6 h7
  k_extra "w"
  k_extra "g"
  k_extra "w"
  refine Fn_len hgl (by rw [List.length_map]; lia) ?_
  rw [List.length_map, hgal]
  k_extra "w"
  by_cases hone : gs.length = 1
  · (with_reducible refine' Eq.mpr (if_pos ?z183n) ?z183h; (case z183n => ((try simp only [decide_eq_true_eq, Option.map_none, Option.isSome_none, Option.map_some, Option.isSome_some, Bool.false_eq_true, not_false_eq_true, List.length_cons, List.length_map, List.length_nil, Bool.not_eq_true]); first | done | lia | assumption)))
    obtain ⟨g0, hg0⟩ : ∃ g0, gs = [g0] := List.length_eq_one_iff.mp hone
    obtain ⟨ga, hga, hgaa, hgaS⟩ := hgas'.get (i := 0) (b := g0) (by rw [hg0]; rfl)
    have hin := groupsF_inR (codes := codes) (g := g0) (by rw [← hgs, hg0]; exact .head _)
    have hg08 := hg8 g0 (by rw [hg0]; exact .head _)
    k_extra "w"
    ((with_reducible refine' k_CallM ?z184o ?z184h ?z184e ?z184p); (case z184o => assumption); (case z184e => rfl); (case z184p => kernel_rfl))
    k_extra "w"
    refine ⟨_, _, _, _, 100, rfl, ix₂, ns₂, by k_extra "lk", by kernel_rfl, by kernel_rfl, by kernel_rfl, by kernel_rfl, ?_⟩
    k_extra "w"
    refine Op2_idxL hgl (by decide) (by decide) (show (gas.map PV.r)[(0 : Int).toNat]? = some (.r ga) by rw [List.getElem?_map, show (0 : Int).toNat = 0 from rfl, hga]; rfl) ?_
    k_extra "w"
    refine (F_switch G (s := initS ar codes) (ps := g0) B₂ C₂ hgaa hgaS hin (by lia) (by lia) (by simp [initS]) (by simp [initS]) (by simp [initS]) fun σ₃ B₃ E₃ => ?_).fn
    refine ⟨trivial, ?_⟩
    have ix₃ := B₃.ix
    have ns₃ := B₃.ns
    have C₃ := C₂.ext E₃ fun a h => .inr h
    have S₀ : Sized (initS ar codes) 0 := ⟨by simp [initS], by simp [initS], by simp [initS]⟩
    have S₁ := (S₀.switch (codes := codes) (ps := g0) (by lia)).rows (r := (switchF codes g0 (initS ar codes)).1)
    have hrws := switchF_rows (codes := codes) (ps := g0) (s := initS ar codes)
    k_extra "w"
    ((with_reducible refine' k_CallM ?z185o ?z185h ?z185e ?z185p); (case z185o => assumption); (case z185e => rfl); (case z185p => kernel_rfl))
    k_extra "w"
    refine ⟨_, _, _, _, 107, rfl, ix₃, ns₃, by k_extra "lk", by kernel_rfl, by kernel_rfl, by kernel_rfl, by kernel_rfl, ?_⟩
    k_extra "w"
    refine (F_finish G B₃ C₃ S₁.two (by lia) (Nat.le_trans S₁.chains (by lia)) ?_ hins fun σ₄ B₄ E₄ => ?_).fn.up (by decide)
    · simp only [addRows, List.length_append]
      rw [hrws.2.1]
      simp only [initS, List.length_nil]
      have := hrws.1
      simp only [initS] at this
      lia
    refine h b.rw σ₄ hrw ?_ (((EE₂.trans E₃).trans E₄).nil hS)
    have : groupBlockF ar codes = finishRows codes (addRows (switchF codes g0 (initS ar codes)).2 (switchF codes g0 (initS ar codes)).1) := by
      rw [groupBlockF, if_neg h2, if_neg hc]
      simp only [← hgs, if_pos hone]
      rw [hg0]; rfl
    rw [this]; exact B₄.rw
  (with_reducible refine' Eq.mpr (if_neg ?z186n) ?z186h; (case z186n => ((try simp only [decide_eq_true_eq, Option.map_none, Option.isSome_none, Option.map_some, Option.isSome_some, Bool.false_eq_true, not_false_eq_true, List.length_cons, List.length_map, List.length_nil, Bool.not_eq_true]); first | done | lia | assumption)))
  have hg2 : 2 ≤ gs.length := by
    have : gs ≠ [] := by
      intro z
      rw [z, List.flatten_nil] at hfl
      have := congrArg List.length hfl
      rw [upto_length, List.length_nil] at this; lia
    have := List.length_pos_iff.mpr this
    lia
  refine Mine.Ex.weak (l0 := [(Str.ofString "codes", .r b.cs), (Str.ofString "builder", .r b.x), (Str.ofString "groups", .r gl)]) (by k_extra "lle") ?_
  k_extra "w"
  refine ⟨Nat.zero_le _, fun la hla => ?_⟩
  have hlaS := B₂.new_notin hla
  have hlag : la ≠ gl := fun e => by rw [e, hgl] at hla; cases hla
  have hlax : la ≠ b.x := fun e => by rw [e, ix₂] at hla; cases hla
  k_extra "w"
  obtain ⟨lf, hlf⟩ : ∃ lf, lf = labelsF gs (initS ar codes) := ⟨_, rfl⟩
  have hls := labelFold_same gs ([], initS ar codes)
  rw [show gs.foldl labelStep ([], initS ar codes) = lf from hlf.symm] at hls
  simp only [List.length_nil, Nat.zero_add] at hls
  refine Ex1_cut (fun l σ' => LocLe [(Str.ofString "codes", .r b.cs), (Str.ofString "builder", .r b.x), (Str.ofString "groups", .r gl), (Str.ofString "labels", .r la)] l ∧ Bld σ' b lf.2 ∧ Ext b.S σ₂ σ' ∧ σ' la = some (.list (lf.1.map intPV))) ?_ ?_
  · ((with_reducible refine' Ex1_For ?z187o ?z187h ?z187s); (case z187o => assumption); (case z187s => (intro _; rfl)))
    k_extra "w"
    obtain ⟨J, hJ⟩ : ∃ J : Nat → Loc → Hp → Prop, ∀ i l σ', J i l σ' ↔ (LocLe [(Str.ofString "codes", .r b.cs), (Str.ofString "builder", .r b.x), (Str.ofString "groups", .r gl), (Str.ofString "labels", .r la)] l ∧
      ∃ a, a = (gs.take i).foldl labelStep ([], initS ar codes) ∧ Bld σ' b a.2 ∧ Ext b.S σ₂ σ' ∧ σ' la = some (.list (a.1.map intPV))) := ⟨_, fun _ _ _ => Iff.rfl⟩
    refine ⟨gas.map .r, J, (hJ _ _ _).mpr ⟨?_, _, rfl, B₂.new hla, Ext.refl.setNew hla, setH_self⟩, fun i l σ' hj => ?_, ?_, ?_⟩
    · k_extra "lle"
    · obtain ⟨_, _, _, _, E, _⟩ := (hJ _ _ _).mp hj
      exact E _ _ hglS hgl
    · intro i l σ' v hv hj
      obtain ⟨hl, a, ea, B', E, hla'⟩ := (hJ _ _ _).mp hj
      refine Tg.weak hl ?_
      obtain ⟨ga, hga, rfl⟩ := map_get hv
      have hlt : i < gs.length := by rw [← hgal]; exact (List.getElem?_eq_some_iff.mp hga).1
      have hgi : gs[i]? = some gs[i] := by simp [hlt]
      obtain ⟨ga', hga', hgaa, hgaS⟩ := hgas'.get hgi
      rw [hga] at hga'
      obtain rfl := Option.some.inj hga'
      have hgaa' := E _ _ hgaS hgaa
      have hgm : gs[i] ∈ gs := List.getElem_mem _
      have hgl8 := hg8 _ hgm
      have estep := foldl_take_succ (f := labelStep) (a := ([], initS ar codes)) hgi
      rw [← ea] at estep
      have hal := (labelFold_same (gs.take i) ([], initS ar codes)).1
      rw [← ea, List.length_take] at hal
      simp only [List.length_nil, Nat.zero_add] at hal
      k_extra "w"
      k_extra "g"
      k_extra "w"
      refine Fn_len hgaa' (by rw [List.length_map]; lia) ?_
      rw [List.length_map]
      k_extra "w"
      by_cases h1 : gs[i].length = 1
      · (with_reducible refine' Eq.mpr (if_pos ?z188n) ?z188h; (case z188n => ((try simp only [decide_eq_true_eq, Option.map_none, Option.isSome_none, Option.map_some, Option.isSome_some, Bool.false_eq_true, not_false_eq_true, List.length_cons, List.length_map, List.length_nil, Bool.not_eq_true]); first | done | lia | assumption)))
        obtain ⟨p, hp⟩ := List.length_eq_one_iff.mp h1
        k_extra "w"
        refine Op2_idxL hgaa' (by decide) (by decide) (pv := intPV p) (by rw [hp]; rfl) ?_
        refine ⟨_, hla', by rw [List.length_map]; lia, ?_⟩
        k_extra "w"
        refine (hJ _ _ _).mpr ⟨by k_extra "lle", _, rfl, ?_⟩
        have e : labelStep a gs[i] = (a.1 ++ [p], a.2) := by rw [labelStep, if_pos h1, hp]; rfl
        rw [estep, e]
        exact ⟨B'.off hlax hlaS, E.setNew hla, by rw [setH_self, List.map_append]; rfl⟩
      · (with_reducible refine' Eq.mpr (if_neg ?z189n) ?z189h; (case z189n => ((try simp only [decide_eq_true_eq, Option.map_none, Option.isSome_none, Option.map_some, Option.isSome_some, Bool.false_eq_true, not_false_eq_true, List.length_cons, List.length_map, List.length_nil, Bool.not_eq_true]); first | done | lia | assumption)))
        have ix' := B'.ix
        have ns' := B'.ns
        k_extra "w"
        ((with_reducible refine' k_CallM ?z190o ?z190h ?z190e ?z190p); (case z190o => assumption); (case z190e => rfl); (case z190p => kernel_rfl))
        k_extra "w"
        refine ⟨_, _, _, _, 58, rfl, ix', ns', by k_extra "lk", by kernel_rfl, by kernel_rfl, by kernel_rfl, by kernel_rfl, ?_⟩
        k_extra "w"
        refine (F_fresh G B' fun σ₃ B₃ E₃ => ?_).fn.up (by decide)
        refine ⟨_, E₃ _ _ hlaS hla', by rw [List.length_map]; lia, ?_⟩
        k_extra "w"
        refine (hJ _ _ _).mpr ⟨by k_extra "lle", _, rfl, ?_⟩
        have e : labelStep a gs[i] = (a.1 ++ [a.2.next], { a.2 with next := a.2.next + 1 }) := by rw [labelStep, if_neg h1]
        rw [estep, e]
        exact ⟨B₃.off hlax hlaS, (E.trans E₃).setNew hla, by rw [setH_self, List.map_append]; rfl⟩
    · intro l σ' hj
      obtain ⟨hl, a, ea, B', E, hla'⟩ := (hJ _ _ _).mp hj
      rw [List.length_map, hgal, List.take_length] at ea
      obtain rfl : a = lf := ea.trans hlf.symm
      exact ⟨rfl, hl, B', E, hla'⟩
  rintro l σ₃ ⟨hl, B₃, E₃, hla₃⟩
  refine Mine.Ex.weak hl ?_
  clear hl
  have ix₃ := B₃.ix
  have ns₃ := B₃.ns
  have hgl₃ := E₃ _ _ hglS hgl
  have har : lf.2.ar = ar := hls.2.2.1
  k_extra "1"
  ((with_reducible refine' rowsLoop_builder ?z191o ?z191k1 ?z191k2 ?z191h ?z191e ?z191s); (case z191o => assumption); (case z191k1 => k_extra "kd"); (case z191k2 => k_extra "kd"); (case z191e => rfl); (case z191s => (intro _; rfl)))
  ((with_reducible refine' k_CallM ?z192o ?z192h ?z192e ?z192p); (case z192o => assumption); (case z192e => rfl); (case z192p => kernel_rfl))
  k_extra "w"
  refine ⟨_, _, _, _, 65, rfl, ix₃, ns₃, by k_extra "lk", by kernel_rfl, by kernel_rfl, by kernel_rfl, by kernel_rfl, ?_⟩
  k_extra "w"
  refine (F_chain_rows G (pv := .r la) (xs := lf.1) B₃ hla₃ (by lia) (by lia) fun r hr => ?_).fn.up (by decide)
  have hcr : (chainRows lf.2.ar lf.1).length ≤ 20 := by
    simp only [chainRows, List.length_cons, List.length_append, List.length_map, List.length_dropLast, List.length_drop, List.length_nil]; lia
  have hlr : lf.2.rows.length ≤ 0 := by rw [hls.2.1]; simp [initS]
  refine ⟨r, b, _, _, [(Str.ofString "codes", .r b.cs), (Str.ofString "builder", .r b.x), (Str.ofString "groups", .r gl), (Str.ofString "labels", .r la)], rfl, setH_self, B₃.new_notin hr, by k_extra "lle", by k_extra "lk", by k_extra "lk", B₃.new hr, ?_, fun l₂ σ₄ hl₂ B₄ E₄ => ?_⟩
  · lia
  refine Mine.Ex.weak hl₂ ?_
  have E₄' : Ext b.S σ₂ σ₄ := (E₃.new hr).trans E₄
  have hla₄ : σ₄ la = some (.list (lf.1.map intPV)) := E₄ _ _ hlaS (setH_new hr hla₃)
  clear hl₂ l₂ E₄
  obtain ⟨s₁, hs₁⟩ : ∃ s₁, s₁ = { lf.2 with rows := chainRows ar lf.1 } := ⟨_, rfl⟩
  have es₁ : addRows lf.2 (chainRows lf.2.ar lf.1) = s₁ := by
    rw [hs₁, har, addRows, List.eq_nil_of_length_eq_zero (Nat.le_zero.mp hlr), List.nil_append]
  rw [es₁] at B₄
  have S₁ : Sized s₁ 0 := by
    rw [hs₁]
    refine ⟨?_, ?_, ?_⟩
    · rw [hls.2.2.2.1]; simp [initS]
    · rw [hls.2.2.2.2]; simp [initS]
    · intro q hq; rw [show ({ lf.2 with rows := chainRows ar lf.1 } : BS).chains = [] from hls.2.2.2.2] at hq; cases hq
  have hr₁ : s₁.rows.length ≤ 20 := by rw [hs₁, ← har]; exact hcr
  have hgl₄ := E₄' _ _ hglS hgl
  k_extra "w"
  obtain ⟨qs, hqs⟩ : ∃ qs, qs = gs.zip lf.1 := ⟨_, rfl⟩
  have hq8 : ∀ q ∈ qs, q.1.length ≤ 8 := by rw [hqs]; exact fun q hq => hg8 _ (List.of_mem_zip hq).1
  have hqn : qs.length = gs.length := by rw [hqs, List.length_zip]; lia
  have hS₂ := gswitch_sized (codes := codes) qs s₁ hq8 S₁ hr₁
  refine Ex1_cut (fun l σ' => LocLe [(Str.ofString "builder", .r b.x)] l ∧ Bld σ' b (qs.foldl (gswitchStep codes) s₁) ∧ Ext b.S σ₂ σ') ?_ ?_
  · ((with_reducible refine' Ex1_For ?z193o ?z193h ?z193s); (case z193o => assumption); (case z193s => (intro _; rfl)))
    k_extra "g"
    k_extra "w"
    k_extra "g"
    k_extra "w"
    refine Fn_len hgl₄ (by rw [List.length_map]; lia) ?_
    rw [List.length_map, hgal]
    k_extra "w"
    obtain ⟨J, hJ⟩ : ∃ J : Nat → Loc → Hp → Prop, ∀ i l σ', J i l σ' ↔ (LocLe [(Str.ofString "builder", .r b.x), (Str.ofString "groups", .r gl), (Str.ofString "labels", .r la)] l ∧
      Bld σ' b ((qs.take i).foldl (gswitchStep codes) s₁) ∧ Ext b.S σ₂ σ' ∧ σ' la = some (.list (lf.1.map intPV))) := ⟨_, fun _ _ _ => Iff.rfl⟩
    refine Fn_range1 ⟨(upto 0 gs.length).map fun i => .d (.int i), J, (hJ _ _ _).mpr ⟨?_, B₄, E₄', hla₄⟩, fun i l σ' hj => items_rng (by lia) (by lia) (by lia) (by lia), ?_, ?_⟩
    · k_extra "lle"
    · intro i l σ' v hv hj
      obtain ⟨hl, B', E, hla'⟩ := (hJ _ _ _).mp hj
      refine Tg.weak hl ?_
      obtain ⟨rfl, hi⟩ := upto_get hv
      have hlt : i < gs.length := by lia
      have hgi : gs[i]? = some gs[i] := by simp [hlt]
      have hlti : i < lf.1.length := by lia
      have hqi : qs[i]? = some (gs[i], lf.1[i]) := by
        rw [hqs, List.getElem?_zip_eq_some]
        exact ⟨hgi, by simp [hlti]⟩
      obtain ⟨ga, hga, hgaa, hgaS⟩ := hgas'.get hgi
      have hgaa' := E _ _ hgaS hgaa
      have hgl' := E _ _ hglS hgl
      have hgm : gs[i] ∈ gs := List.getElem_mem _
      have hgl8 := hg8 _ hgm
      have estep := foldl_take_succ (f := gswitchStep codes) (a := s₁) hqi
      have hSi := gswitch_sized (codes := codes) (qs.take i) s₁ (fun q hq => hq8 q (List.mem_of_mem_take hq)) S₁ hr₁
      have hti : (qs.take i).length ≤ 8 := by rw [List.length_take]; lia
      obtain ⟨si, hsi⟩ : ∃ si, si = (qs.take i).foldl (gswitchStep codes) s₁ := ⟨_, rfl⟩
      rw [← hsi] at B' hSi estep
      have hgi0 : (gas.map PV.r)[(0 + (i : Int)).toNat]? = some (.r ga) := by
        rw [List.getElem?_map, show (0 + (i : Int)).toNat = i by lia, hga]; rfl
      k_extra "w"
      k_extra "g"
      k_extra "w"
      refine Op2_idxL hgl' (by lia) (by lia) hgi0 ?_
      k_extra "w"
      refine Fn_len hgaa' (by rw [List.length_map]; lia) ?_
      rw [List.length_map]
      k_extra "w"
      by_cases h1 : 1 < gs[i].length
      · (with_reducible refine' Eq.mpr (if_pos ?z194n) ?z194h; (case z194n => ((try simp only [decide_eq_true_eq, Option.map_none, Option.isSome_none, Option.map_some, Option.isSome_some, Bool.false_eq_true, not_false_eq_true, List.length_cons, List.length_map, List.length_nil, Bool.not_eq_true]); first | done | lia | assumption)))
        have ix' := B'.ix
        have ns' := B'.ns
        have rw' := B'.rw
        k_extra "w"
        (with_reducible refine' Op1_attr ?z195o ?z195ix ?z195ns ?z195lk ?z195hg ?z195hh ?z195ha ?z195h; (case z195o => assumption); (case z195ix => k_extra "sg"); (case z195ns => k_extra "sg"); (case z195lk => k_extra "lk"); (case z195hg => kernel_rfl); (case z195hh => kernel_rfl); (case z195ha => kernel_rfl))
        refine ⟨_, _, rfl, rw', ?_⟩
        k_extra "w"
        refine Op2_idxL hla' (by lia) (by lia) (pv := intPV lf.1[i]) (by rw [List.getElem?_map, show (0 + (i : Int)).toNat = i by lia]; simp [hlti]) ?_
        k_extra "w"
        (first | refine ⟨[_], rfl, Nat.le_of_ble_eq_true rfl, ?_⟩ | refine ⟨[_, _], rfl, Nat.le_of_ble_eq_true rfl, ?_⟩ | refine ⟨[_, _, _], rfl, Nat.le_of_ble_eq_true rfl, ?_⟩ | refine ⟨[_, _, _, _], rfl, Nat.le_of_ble_eq_true rfl, ?_⟩ | refine ⟨[_, _, _, _, _], rfl, Nat.le_of_ble_eq_true rfl, ?_⟩)
        have S3 := (hSi.1.rows (r := [.label lf.1[i]]))
        have R3 : (addRows si [.label lf.1[i]]).rows.length ≤ 100 := by
          simp only [addRows, List.length_append, List.length_cons, List.length_nil]
          have := hSi.2; lia
        refine ⟨_, rw', by rw [List.length_map]; have := hSi.2; lia, ?_⟩
        have B₅ : Bld (setH σ' b.rw (.list (si.rows.map insPV ++ [.d (.tuple [sv "label", .int lf.1[i]])]))) b (addRows si [.label lf.1[i]]) := B'.setRw (r := si.rows ++ [.label lf.1[i]]) (by rw [List.map_append]; rfl)
        have E₅ := E.setH (a := b.rw) (mo := .list (si.rows.map insPV ++ [.d (.tuple [sv "label", .int lf.1[i]])])) (by simp [BA.S])
        have ix₅ := B₅.ix
        have ns₅ := B₅.ns
        have C₅ := C₂.ext E₅ fun a h => .inr h
        have hlaR : la ≠ b.rw := fun z => hlaS (by simp [BA.S, z])
        have hla₅ : (setH σ' b.rw (.list (si.rows.map insPV ++ [.d (.tuple [sv "label", .int lf.1[i]])]))) la = some (.list (lf.1.map intPV)) := (setH_ne hlaR).trans hla'
        have hin := groupsF_inR (codes := codes) (g := gs[i]) (by rw [← hgs]; exact hgm)
        k_extra "w"
        ((with_reducible refine' k_CallM ?z197o ?z197h ?z197e ?z197p); (case z197o => assumption); (case z197e => rfl); (case z197p => kernel_rfl))
        k_extra "w"
        refine ⟨_, _, _, _, 100, rfl, ix₅, ns₅, by k_extra "lk", by kernel_rfl, by kernel_rfl, by kernel_rfl, by kernel_rfl, ?_⟩
        k_extra "w"
        refine Op2_idxL (E₅ _ _ hglS hgl) (by lia) (by lia) hgi0 ?_
        k_extra "w"
        refine (F_switch G (s := addRows si [.label lf.1[i]]) (ps := gs[i]) B₅ C₅ (E₅ _ _ hgaS hgaa) hgaS hin (by lia) (by lia) (Nat.le_trans S3.known (by lia)) (Nat.le_trans S3.chains (by lia)) (by lia) fun σ₆ B₆ E₆ => ?_).fn
        refine ⟨trivial, ?_⟩
        k_extra "w"
        refine (hJ _ _ _).mpr ⟨by k_extra "lle", ?_, E₅.trans E₆, E₆ _ _ hlaS hla₅⟩
        rw [estep, gswitchStep, if_pos h1]
        exact B₆
      · (with_reducible refine' Eq.mpr (if_neg ?z198n) ?z198h; (case z198n => ((try simp only [decide_eq_true_eq, Option.map_none, Option.isSome_none, Option.map_some, Option.isSome_some, Bool.false_eq_true, not_false_eq_true, List.length_cons, List.length_map, List.length_nil, Bool.not_eq_true]); first | done | lia | assumption)))
        k_extra "w"
        refine (hJ _ _ _).mpr ⟨by k_extra "lle", ?_, E, hla'⟩
        rw [estep, gswitchStep, if_neg h1]
        exact B'
    · intro l σ' hj
      obtain ⟨hl, B', E, hla'⟩ := (hJ _ _ _).mp hj
      rw [upto_len, show (((gs.length : Nat) : Int) - 0).toNat = qs.length by lia, List.take_length] at B'
      refine ⟨rfl, LocLe.trans ?_ hl, B', E⟩
      k_extra "lle"
  rintro l σ₇ ⟨hl, B₇, E₇⟩
  refine Mine.Ex.weak hl ?_
  have ix₇ := B₇.ix
  have ns₇ := B₇.ns
  have C₇ := C₂.ext E₇ fun a h => .inr h
  k_extra "w"
  ((with_reducible refine' k_CallM ?z199o ?z199h ?z199e ?z199p); (case z199o => assumption); (case z199e => rfl); (case z199p => kernel_rfl))
  k_extra "w"
  refine ⟨_, _, _, _, 107, rfl, ix₇, ns₇, by k_extra "lk", by kernel_rfl, by kernel_rfl, by kernel_rfl, by kernel_rfl, ?_⟩
  k_extra "w"
  refine (F_finish G B₇ C₇ (by have := hS₂.1.two; exact this) (by lia) (Nat.le_trans hS₂.1.chains (by lia)) (Nat.le_trans hS₂.2 (by lia)) hins fun σ₈ B₈ E₈ => ?_).fn.up (by decide)
  refine h b.rw σ₈ hrw ?_ (((EE₂.trans E₇).trans E₈).nil hS)
  have : groupBlockF ar codes = finishRows codes (qs.foldl (gswitchStep codes) s₁) := by
    rw [groupBlockF, if_neg h2, if_neg hc]
    simp only [← hgs, if_neg hone]
    rw [hqs, hs₁, hlf]
  rw [this]; exact B₈.rw
end SSp12
section SLw1
variable {w : World} {base : Heap} {mg mb : Str → Option Value}
-- set_option profiler true
-- set_option profiler.threshold 1000
theorem F_row (G : (gx w base mg mb).Ok) {σ : Hp} {sc : Addr} {vs : List Value} {ns : List Int} {Q} (hl : base.IsList sc vs.toArray) (hr : All2 (PRep base) vs (ns.map intPV)) (hz : ns.length ≤ 1000)
    (h : ∀ r ys σ', ys.length ≤ 2000 → σ r = none → σ' r = some (iL ys) → Ext [] σ σ' → Q (.r r) σ') : FnC (gx w base mg mb) 1 (.ref 282) [.r sc] σ Q := by
  refine FnC_def G [Str.ofString "script"] (by exact rfl) (by kernel_rfl) (by (intro vs hvs; rcases vs with _ | ⟨a0, _ | ⟨a1, _ | ⟨a2, _ | ⟨a3, _ | ⟨a4, _ | ⟨a5, r⟩⟩⟩⟩⟩⟩ <;> first | (exfalso; simp at hvs; done) | rfl)) (by kernel_rfl) (by decide +kernel) ?_
  intro A F env O hsc
  dsimp only [List.zip, List.zipWith]
  k_extra "w"
  refine ⟨Nat.zero_le _, fun r0 hr0 => ?_⟩
  k_extra "w"
  refine Ex1_cut (fun l σ' => LocLe [(Str.ofString "row", .r r0)] l ∧ Ext [] σ σ' ∧ ∃ rs : List Int, σ' r0 = some (iL rs) ∧ rs.length ≤ 1240) ?_ ?_
  · ((with_reducible refine' Ex1_For ?z201o ?z201h ?z201s); (case z201o => assumption); (case z201s => (intro _; rfl)))
    refine Ev_SliceTo O ?_
    k_extra "w"
    refine ⟨sc, ns.map intPV, 40, rfl, rfl, by decide, listAt_base hl hr, by rw [List.length_map]; lia, fun sl hsl => ?_⟩
    have hsl0 : r0 ≠ sl := fun e => by rw [← e, setH_self] at hsl; cases hsl
    have hsl' : σ sl = none := by rw [setH_ne hsl0.symm] at hsl; exact hsl
    obtain ⟨J, hJ⟩ : ∃ J : Nat → Loc → Hp → Prop, ∀ i l σ', J i l σ' ↔ (LocLe [(Str.ofString "row", .r r0)] l ∧ Ext [] σ σ' ∧ σ' sl = some (iL (ns.take 40)) ∧ ∃ rs : List Int, σ' r0 = some (iL rs) ∧ rs.length ≤ 31 * i) := ⟨_, fun _ _ _ => Iff.rfl⟩
    refine ⟨(ns.take 40).map intPV, J, (hJ _ _ _).mpr ⟨?_, (Ext.refl.setNew hr0).setNew hsl', ?_, [], ?_, Nat.zero_le _⟩, fun i l σ' hj => ?_, ?_, ?_⟩
    · k_extra "lle"
    · rw [setH_self]; simp [iL]
    · exact setH_new hsl setH_self
    · obtain ⟨_, _, h1, _⟩ := (hJ _ _ _).mp hj
      exact h1
    · intro i l σ' v hv hj
      obtain ⟨hl', E, h1, rs, h2, h3⟩ := (hJ _ _ _).mp hj
      refine Tg.weak hl' ?_
      obtain ⟨p, hp, rfl⟩ := map_get hv
      have hi : i < 40 := by
        have := (List.getElem?_eq_some_iff.mp hp).1
        rw [List.length_take] at this; lia
      k_extra "1"
      k_extra "1"
      refine Ex1_cut (fun l σ'' => σ' = σ'' ∧ ∃ q : Int, LocLe [(Str.ofString "row", .r r0), (Str.ofString "number", intPV q)] l) ?_ ?_
      · k_extra "w"
        by_cases h0 : p ≥ 0
        · (with_reducible refine' Eq.mpr (if_pos ?z202n) ?z202h; (case z202n => ((try simp only [decide_eq_true_eq, Option.map_none, Option.isSome_none, Option.map_some, Option.isSome_some, Bool.false_eq_true, not_false_eq_true, List.length_cons, List.length_map, List.length_nil, Bool.not_eq_true]); first | done | lia | assumption)))
          k_extra "w"
          exact ⟨rfl, rfl, p, by k_extra "lle"⟩
        · (with_reducible refine' Eq.mpr (if_neg ?z203n) ?z203h; (case z203n => ((try simp only [decide_eq_true_eq, Option.map_none, Option.isSome_none, Option.map_some, Option.isSome_some, Bool.false_eq_true, not_false_eq_true, List.length_cons, List.length_map, List.length_nil, Bool.not_eq_true]); first | done | lia | assumption)))
          k_extra "w"
          exact ⟨rfl, rfl, 7 - p, by k_extra "lle"⟩
      rintro l₁ _ ⟨rfl, q, hl₁⟩
      refine Mine.Ex.weak hl₁ ?_
      k_extra "w"
      refine Op2_mod (by decide) ?_
      refine ⟨_, h2, by rw [List.length_map]; lia, ?_⟩
      k_extra "w"
      refine Op2_div (by decide) (by rfl) ?_
      k_extra "w"
      have E₂ : Ext [] σ (setH σ' r0 (.list (rs.map intPV ++ [intPV (q.fmod 1013)]))) := E.setNew hr0
      have h1₂ : (setH σ' r0 (.list (rs.map intPV ++ [intPV (q.fmod 1013)]))) sl = some (iL (ns.take 40)) := (setH_ne hsl0.symm).trans h1
      have h2₂ : (setH σ' r0 (.list (rs.map intPV ++ [intPV (q.fmod 1013)]))) r0 = some (iL (rs ++ [q.fmod 1013])) := by rw [setH_self, iL, List.map_append]; rfl
      generalize setH σ' r0 (.list (rs.map intPV ++ [intPV (q.fmod 1013)])) = σ₂ at *
      refine Ex1_cut (fun l σ' => LocLe [(Str.ofString "row", .r r0)] l ∧ Ext [] σ σ' ∧ σ' sl = some (iL (ns.take 40)) ∧ ∃ rs' : List Int, σ' r0 = some (iL rs') ∧ rs'.length ≤ 31 * (i + 1)) ?_ ?_
      · ((with_reducible refine' Ex1_For ?z204o ?z204h ?z204s); (case z204o => assumption); (case z204s => (intro _; rfl)))
        k_extra "g"
        k_extra "w"
        obtain ⟨J2, hJ2⟩ : ∃ J : Nat → Loc → Hp → Prop, ∀ j l σ', J j l σ' ↔ (∃ q : Int, LocLe [(Str.ofString "row", .r r0), (Str.ofString "number", intPV q)] l ∧ Ext [] σ σ' ∧ σ' sl = some (iL (ns.take 40)) ∧ ∃ rs' : List Int, σ' r0 = some (iL rs') ∧ rs'.length ≤ rs.length + 1 + j) := ⟨_, fun _ _ _ => Iff.rfl⟩
        refine Fn_range1 ⟨(upto 0 30).map fun i => .d (.int i), J2, (hJ2 _ _ _).mpr ⟨q.fdiv 1013, ?_, E₂, h1₂, rs ++ [q.fmod 1013], h2₂, by simp⟩, fun j l σ' hj => items_rng (by lia) (by lia) (by lia) (by lia), ?_, ?_⟩
        · k_extra "lle"
        · intro j l σ' v hv hj
          obtain ⟨q, hl₃, E₃, h1₃, rs₃, h2₃, h3₃⟩ := (hJ2 _ _ _).mp hj
          refine Tg.weak hl₃ ?_
          obtain ⟨rfl, hjj⟩ := upto_get hv
          k_extra "w"
          by_cases h0 : q > 0
          · (with_reducible refine' Eq.mpr (if_pos ?z205n) ?z205h; (case z205n => ((try simp only [decide_eq_true_eq, Option.map_none, Option.isSome_none, Option.map_some, Option.isSome_some, Bool.false_eq_true, not_false_eq_true, List.length_cons, List.length_map, List.length_nil, Bool.not_eq_true]); first | done | lia | assumption)))
            k_extra "w"
            refine Op2_mod (by decide) ?_
            refine ⟨_, h2₃, by rw [List.length_map]; lia, ?_⟩
            k_extra "w"
            refine Op2_div (by decide) (by rfl) ?_
            k_extra "w"
            exact (hJ2 _ _ _).mpr ⟨q.fdiv 1013, by k_extra "lle", E₃.setNew hr0, (setH_ne hsl0.symm).trans h1₃, rs₃ ++ [q.fmod 1013], by rw [setH_self, iL, List.map_append]; rfl, by simp; lia⟩
          · (with_reducible refine' Eq.mpr (if_neg ?z206n) ?z206h; (case z206n => ((try simp only [decide_eq_true_eq, Option.map_none, Option.isSome_none, Option.map_some, Option.isSome_some, Bool.false_eq_true, not_false_eq_true, List.length_cons, List.length_map, List.length_nil, Bool.not_eq_true]); first | done | lia | assumption)))
            k_extra "w"
            exact (hJ2 _ _ _).mpr ⟨q, by k_extra "lle", E₃, h1₃, rs₃, h2₃, by lia⟩
        · intro l σ' hj
          obtain ⟨q, hl₃, E₃, h1₃, rs₃, h2₃, h3₃⟩ := (hJ2 _ _ _).mp hj
          rw [upto_len] at h3₃
          refine ⟨rfl, LocLe.trans ?_ hl₃, E₃, h1₃, rs₃, h2₃, by lia⟩
          k_extra "lle"
      rintro l₃ σ₃ ⟨hl₃, E₃, h1₃, rs₃, h2₃, h3₃⟩
      refine Mine.Ex.weak hl₃ ?_
      k_extra "w"
      exact (hJ _ _ _).mpr ⟨by k_extra "lle", E₃, h1₃, rs₃, h2₃, h3₃⟩
    · intro l σ' hj
      obtain ⟨hl', E, h1, rs, h2, h3⟩ := (hJ _ _ _).mp hj
      refine ⟨rfl, hl', E, rs, h2, ?_⟩
      rw [List.length_map, List.length_take] at h3
      lia
  rintro l σ₁ ⟨hl₁, E₁, rs, h1, h2⟩
  refine Mine.Ex.weak hl₁ ?_
  k_extra "1"
  k_extra "1"
  refine Ev_SliceTo O ?_
  k_extra "w"
  refine ⟨r0, rs.map intPV, 120, rfl, rfl, by decide, listAt_σ h1, by rw [List.length_map]; lia, fun r hr => ?_⟩
  have hrn : σ r = none := by
    cases q : σ r with
    | none => rfl
    | some mo => have := E₁ _ _ (by simp) q; rw [hr] at this; cases this
  have hr' : (setH σ₁ r (.list ((rs.map intPV).take (120 : Int).toNat))) r = some (.list ((rs.map intPV).take (120 : Int).toNat)) := setH_self
  k_extra "w"
  ((with_reducible refine' k_CallMB (id := "list.reverse") ?z207o ?z207h ?z207e ?z207p); (case z207o => assumption); (case z207e => rfl); (case z207p => kernel_rfl))
  k_extra "w"
  refine ⟨gm_list hr' PySem.F.slot_list_reverse PySem.F.type_list_reverse, ?_⟩
  k_extra "w"
  refine Fn_reverse hr' (by rw [List.length_take, List.length_map]; lia) ?_
  refine ⟨trivial, ?_⟩
  k_extra "w"
  refine h r ((rs.take 120).reverse) _ (by rw [List.length_reverse, List.length_take]; lia) hrn ?_ ((E₁.setNew hrn).setNew hrn)
  rw [setH_self, iL, List.map_reverse, List.map_take]; rfl
end SLw1
section SLw2
variable {w : World} {base : Heap} {mg mb : Str → Option Value}
-- set_option profiler true
-- set_option profiler.threshold 1000
theorem kind_data (k : Key) : ∃ rest, k.toData = .tuple (sv k.kind :: rest) := by cases k <;> exact ⟨_, rfl⟩
theorem word_ne {a b : Key} (h : a.kind = b.kind) (hk : a.kind = "const" ∨ a.kind = "struct") : a.word = b.word ↔ a = b := by
  cases a <;> cases b <;> simp_all [Key.kind, Key.word]
theorem nice_word (k : Key) : nice 20 k.word = true := by cases k <;> rfl
set_option maxHeartbeats 1000000 in
theorem F_target (G : (gx w base mg mb).Ok) {r : Ins} {k : Key} {σ : Hp} {Q} (hc : canTarget r k = true) (h : ∀ σ', Ext [] σ σ' → Q (intPV (targetF r k)) σ') : FnC (gx w base mg mb) 1 (.ref 310) [.d r.toData, .d k.toData] σ Q := by
  refine FnC_def G [Str.ofString "ins", Str.ofString "key"] (by exact rfl) (by kernel_rfl) (by (intro vs hvs; rcases vs with _ | ⟨a0, _ | ⟨a1, _ | ⟨a2, _ | ⟨a3, _ | ⟨a4, _ | ⟨a5, r⟩⟩⟩⟩⟩⟩ <;> first | (exfalso; simp at hvs; done) | rfl)) (by kernel_rfl) (by decide +kernel) ?_
  intro A F env O hsc
  dsimp only [List.zip, List.zipWith]
  obtain ⟨rest, hk⟩ := kind_data k
  cases r with
  | fail => cases hc
  | label l => cases hc
  | getc t p => cases hc
  | proceed => cases hc
  | try_ l ar =>
    dsimp only [Ins.toData]
    k_extra "w"
    refine Op2_idxT (by decide) (by decide) (d := sv "try") rfl ?_
    k_extra "w"
    (first | (refine Op2_eqS_self (by assumption) (by decide +kernel) ⟨_, rfl, ?_⟩) | (refine Op2_eqS_ne (by assumption) (by decide +kernel) (by decide +kernel) (by (simp only [ne_eq, sv, PyData.str.injEq, ofString_inj, String.reduceEq, not_false_eq_true])) ⟨_, rfl, ?_⟩))
    k_extra "w"
    refine Op2_idxT (by decide) (by decide) (d := sv "try") rfl ?_
    k_extra "w"
    (first | refine ⟨[_], rfl, Nat.le_of_ble_eq_true rfl, ?_⟩ | refine ⟨[_, _], rfl, Nat.le_of_ble_eq_true rfl, ?_⟩ | refine ⟨[_, _, _], rfl, Nat.le_of_ble_eq_true rfl, ?_⟩ | refine ⟨[_, _, _, _], rfl, Nat.le_of_ble_eq_true rfl, ?_⟩ | refine ⟨[_, _, _, _, _], rfl, Nat.le_of_ble_eq_true rfl, ?_⟩)
    refine Op2_inT_no O (by decide +kernel) (by decide +kernel) (by (simp only [List.mem_cons, List.not_mem_nil, or_false, sv, PyData.str.injEq, ofString_inj, String.reduceEq, or_self, or_true, true_or, not_false_eq_true])) ⟨_, rfl, ?_⟩
    k_extra "w"
    refine Op2_idxT (by decide) (by decide) (d := .int l) rfl ?_
    exact h σ Ext.refl
  | retry l =>
    dsimp only [Ins.toData]
    k_extra "w"
    refine Op2_idxT (by decide) (by decide) (d := sv "retry") rfl ?_
    k_extra "w"
    (first | (refine Op2_eqS_self (by assumption) (by decide +kernel) ⟨_, rfl, ?_⟩) | (refine Op2_eqS_ne (by assumption) (by decide +kernel) (by decide +kernel) (by (simp only [ne_eq, sv, PyData.str.injEq, ofString_inj, String.reduceEq, not_false_eq_true])) ⟨_, rfl, ?_⟩))
    k_extra "w"
    refine Op2_idxT (by decide) (by decide) (d := sv "retry") rfl ?_
    k_extra "w"
    (first | refine ⟨[_], rfl, Nat.le_of_ble_eq_true rfl, ?_⟩ | refine ⟨[_, _], rfl, Nat.le_of_ble_eq_true rfl, ?_⟩ | refine ⟨[_, _, _], rfl, Nat.le_of_ble_eq_true rfl, ?_⟩ | refine ⟨[_, _, _, _], rfl, Nat.le_of_ble_eq_true rfl, ?_⟩ | refine ⟨[_, _, _, _, _], rfl, Nat.le_of_ble_eq_true rfl, ?_⟩)
    refine Op2_inT_no O (by decide +kernel) (by decide +kernel) (by (simp only [List.mem_cons, List.not_mem_nil, or_false, sv, PyData.str.injEq, ofString_inj, String.reduceEq, or_self, or_true, true_or, not_false_eq_true])) ⟨_, rfl, ?_⟩
    k_extra "w"
    refine Op2_idxT (by decide) (by decide) (d := .int l) rfl ?_
    exact h σ Ext.refl
  | trust l =>
    dsimp only [Ins.toData]
    k_extra "w"
    refine Op2_idxT (by decide) (by decide) (d := sv "trust") rfl ?_
    k_extra "w"
    (first | (refine Op2_eqS_self (by assumption) (by decide +kernel) ⟨_, rfl, ?_⟩) | (refine Op2_eqS_ne (by assumption) (by decide +kernel) (by decide +kernel) (by (simp only [ne_eq, sv, PyData.str.injEq, ofString_inj, String.reduceEq, not_false_eq_true])) ⟨_, rfl, ?_⟩))
    k_extra "w"
    refine Op2_idxT (by decide) (by decide) (d := sv "trust") rfl ?_
    k_extra "w"
    (first | refine ⟨[_], rfl, Nat.le_of_ble_eq_true rfl, ?_⟩ | refine ⟨[_, _], rfl, Nat.le_of_ble_eq_true rfl, ?_⟩ | refine ⟨[_, _, _], rfl, Nat.le_of_ble_eq_true rfl, ?_⟩ | refine ⟨[_, _, _, _], rfl, Nat.le_of_ble_eq_true rfl, ?_⟩ | refine ⟨[_, _, _, _, _], rfl, Nat.le_of_ble_eq_true rfl, ?_⟩)
    refine Op2_inT_no O (by decide +kernel) (by decide +kernel) (by (simp only [List.mem_cons, List.not_mem_nil, or_false, sv, PyData.str.injEq, ofString_inj, String.reduceEq, or_self, or_true, true_or, not_false_eq_true])) ⟨_, rfl, ?_⟩
    k_extra "w"
    refine Op2_idxT (by decide) (by decide) (d := .int l) rfl ?_
    exact h σ Ext.refl
  | sot v c l s =>
    dsimp only [Ins.toData]
    rw [hk]
    k_extra "w"
    refine Op2_idxT (by decide) (by decide) (d := sv "switch_on_term") rfl ?_
    k_extra "w"
    (first | (refine Op2_eqS_self (by assumption) (by decide +kernel) ⟨_, rfl, ?_⟩) | (refine Op2_eqS_ne (by assumption) (by decide +kernel) (by decide +kernel) (by (simp only [ne_eq, sv, PyData.str.injEq, ofString_inj, String.reduceEq, not_false_eq_true])) ⟨_, rfl, ?_⟩))
    k_extra "w"
    ((with_reducible refine' k_CallMB (id := "list.index") ?z223o ?z223h ?z223e ?z223p); (case z223o => assumption); (case z223e => rfl); (case z223p => kernel_rfl))
    k_extra "w"
    refine ⟨Nat.le_of_ble_eq_true rfl, fun a ha => ?_⟩
    refine ⟨gm_list setH_self PySem.F.slot_list_index PySem.F.type_list_index, ?_⟩
    k_extra "w"
    refine Op2_idxT (by decide) (by decide) (d := sv k.kind) rfl ?_
    k_extra "w"
    obtain ⟨j, hj, hjf, hjv⟩ : ∃ j : Nat, [sv "var", sv "const", sv "list", sv "struct"][j]? = some (sv k.kind) ∧ (∀ i, i < j → [sv "var", sv "const", sv "list", sv "struct"][i]? ≠ some (sv k.kind)) ∧
        [sv "switch_on_term", PyData.int v, .int c, .int l, .int s][(1 + (j : Int)).toNat]? = some (.int (targetF (.sot v c l s) k)) := by
      have n1 : ∀ {x y : String}, x ≠ y → some (sv x) ≠ some (sv y) := fun {x y} hne z => by
        simp only [sv, Option.some.injEq, PyData.str.injEq, ofString_inj] at z
        exact hne z
      cases k with
      | var => exact ⟨0, rfl, fun i hi => absurd hi (Nat.not_lt_zero _), rfl⟩
      | const t v =>
        refine ⟨1, rfl, fun i hi => ?_, rfl⟩
        obtain rfl : i = 0 := by lia
        exact n1 (by simp [Key.kind])
      | list =>
        refine ⟨2, rfl, fun i hi => ?_, rfl⟩
        have : i = 0 ∨ i = 1 := by lia
        rcases this with rfl | rfl <;> exact n1 (by simp [Key.kind])
      | struct f =>
        refine ⟨3, rfl, fun i hi => ?_, rfl⟩
        have : i = 0 ∨ i = 1 ∨ i = 2 := by lia
        rcases this with rfl | rfl | rfl <;> exact n1 (by simp [Key.kind])
    refine Fn_index (ys := [sv "var", sv "const", sv "list", sv "struct"]) (x := sv k.kind) setH_self (by decide) (nice_kind k) (by decide +kernel) hj hjf ?_
    k_extra "w"
    refine Op2_idxT (by lia) (by have := (List.getElem?_eq_some_iff.mp hj).1; simp at this; lia) hjv ?_
    exact h _ (Ext.refl.new ha)
  | soc t d =>
    simp only [canTarget, Bool.and_eq_true, beq_iff_eq, List.all_eq_true] at hc
    obtain ⟨hkk, ht⟩ := hc
    dsimp only [Ins.toData]
    have hkw : k.toData = .tuple [sv "const", k.word] := by
      cases k <;> first | rfl | (simp [Key.kind] at hkk)
    rw [hkw]
    k_extra "w"
    refine Op2_idxT (by decide) (by decide) (d := sv "switch_on_constant") rfl ?_
    k_extra "w"
    (first | (refine Op2_eqS_self (by assumption) (by decide +kernel) ⟨_, rfl, ?_⟩) | (refine Op2_eqS_ne (by assumption) (by decide +kernel) (by decide +kernel) (by (simp only [ne_eq, sv, PyData.str.injEq, ofString_inj, String.reduceEq, not_false_eq_true])) ⟨_, rfl, ?_⟩))
    k_extra "w"
    refine Op2_idxT (by decide) (by decide) (d := sv "switch_on_constant") rfl ?_
    k_extra "w"
    (first | refine ⟨[_], rfl, Nat.le_of_ble_eq_true rfl, ?_⟩ | refine ⟨[_, _], rfl, Nat.le_of_ble_eq_true rfl, ?_⟩ | refine ⟨[_, _, _], rfl, Nat.le_of_ble_eq_true rfl, ?_⟩ | refine ⟨[_, _, _, _], rfl, Nat.le_of_ble_eq_true rfl, ?_⟩ | refine ⟨[_, _, _, _, _], rfl, Nat.le_of_ble_eq_true rfl, ?_⟩)
    refine Op2_inT_yes O (by decide +kernel) (by decide +kernel) (by (simp only [List.mem_cons, List.not_mem_nil, or_false, sv, PyData.str.injEq, ofString_inj, String.reduceEq, or_self, or_true, true_or, not_false_eq_true])) ⟨_, rfl, ?_⟩
    k_extra "w"
    ((with_reducible refine' Ex1_For ?z228o ?z228h ?z228s); (case z228o => assumption); (case z228s => (intro _; rfl)))
    k_extra "w"
    refine Op2_idxT (by decide) (by decide) (d := .tuple (t.map pairData)) rfl ?_
    obtain ⟨J, hJ⟩ : ∃ J : Nat → Loc → Hp → Prop, ∀ i l σ', J i l σ' ↔ (LocLe [(Str.ofString "ins", .d (.tuple [sv "switch_on_constant", .tuple (t.map pairData), .int d])), (Str.ofString "key", .d (.tuple [sv "const", k.word]))] l ∧ σ = σ' ∧
      (t.take i).find? (fun p => p.1 = k) = none) := ⟨_, fun _ _ _ => Iff.rfl⟩
    refine ⟨(t.map pairData).map .d, J, (hJ _ _ _).mpr ⟨?_, rfl, rfl⟩, fun i l σ' hj => rfl, ?_, ?_⟩
    · k_extra "lle"
    · intro i l σ' v hv hj
      obtain ⟨hl, rfl, hf⟩ := (hJ _ _ _).mp hj
      refine Tg.weak hl ?_
      obtain ⟨pd, hpd, rfl⟩ := map_get hv
      obtain ⟨p, hp, rfl⟩ := map_get hpd
      have hpk := ht p (List.mem_of_getElem? hp)
      refine Tg_pair O (by k_extra "kd") (by k_extra "kd") ?_
      k_extra "w"
      refine Op2_idxT (by decide) (by decide) (d := k.word) rfl ?_
      refine Op2_eq O (nice_word _) (nice_word _) fun b hb => ⟨_, rfl, ?_⟩
      have hb' : b = true ↔ p.1 = k := by rw [hb, word_ne (hpk.trans hkk.symm) (by rw [hpk]; simp)]
      cases b with
      | true =>
        k_extra "w"
        have e : targetF (.soc t d) k = p.2 := by
          have hsp : t = t.take i ++ p :: t.drop (i + 1) := by
            have h1 := (List.getElem?_eq_some_iff.mp hp)
            obtain ⟨hi, he⟩ := h1
            rw [← he, List.getElem_cons_drop, List.take_append_drop]
          show ((t.find? fun p => p.1 = k).map (·.2)).getD d = _
          rw [hsp, List.find?_append, hf, List.find?_cons]
          simp [hb'.mp rfl]
        rw [← e]
        exact h σ Ext.refl
      | false =>
        k_extra "w"
        refine (hJ _ _ _).mpr ⟨by k_extra "lle", rfl, ?_⟩
        have : ¬ p.1 = k := fun z => by have := hb'.mpr z; cases this
        rw [take_succ' hp, List.find?_append, hf]
        simp [this]
    · intro l σ' hj
      obtain ⟨hl, rfl, hf⟩ := (hJ _ _ _).mp hj
      refine Mine.Ex.weak hl ?_
      k_extra "w"
      refine Op2_idxT (by decide) (by decide) (d := .int d) rfl ?_
      rw [List.length_map, List.length_map, List.take_length] at hf
      have e : targetF (.soc t d) k = d := by
        show ((t.find? fun p => p.1 = k).map (·.2)).getD d = _
        rw [hf]; rfl
      rw [← e]
      exact h σ Ext.refl
  | sos t d =>
    simp only [canTarget, Bool.and_eq_true, beq_iff_eq, List.all_eq_true] at hc
    obtain ⟨hkk, ht⟩ := hc
    dsimp only [Ins.toData]
    have hkw : k.toData = .tuple [sv "struct", k.word] := by
      cases k <;> first | rfl | (simp [Key.kind] at hkk)
    rw [hkw]
    k_extra "w"
    refine Op2_idxT (by decide) (by decide) (d := sv "switch_on_structure") rfl ?_
    k_extra "w"
    (first | (refine Op2_eqS_self (by assumption) (by decide +kernel) ⟨_, rfl, ?_⟩) | (refine Op2_eqS_ne (by assumption) (by decide +kernel) (by decide +kernel) (by (simp only [ne_eq, sv, PyData.str.injEq, ofString_inj, String.reduceEq, not_false_eq_true])) ⟨_, rfl, ?_⟩))
    k_extra "w"
    refine Op2_idxT (by decide) (by decide) (d := sv "switch_on_structure") rfl ?_
    k_extra "w"
    (first | refine ⟨[_], rfl, Nat.le_of_ble_eq_true rfl, ?_⟩ | refine ⟨[_, _], rfl, Nat.le_of_ble_eq_true rfl, ?_⟩ | refine ⟨[_, _, _], rfl, Nat.le_of_ble_eq_true rfl, ?_⟩ | refine ⟨[_, _, _, _], rfl, Nat.le_of_ble_eq_true rfl, ?_⟩ | refine ⟨[_, _, _, _, _], rfl, Nat.le_of_ble_eq_true rfl, ?_⟩)
    refine Op2_inT_yes O (by decide +kernel) (by decide +kernel) (by (simp only [List.mem_cons, List.not_mem_nil, or_false, sv, PyData.str.injEq, ofString_inj, String.reduceEq, or_self, or_true, true_or, not_false_eq_true])) ⟨_, rfl, ?_⟩
    k_extra "w"
    ((with_reducible refine' Ex1_For ?z233o ?z233h ?z233s); (case z233o => assumption); (case z233s => (intro _; rfl)))
    k_extra "w"
    refine Op2_idxT (by decide) (by decide) (d := .tuple (t.map pairData)) rfl ?_
    obtain ⟨J, hJ⟩ : ∃ J : Nat → Loc → Hp → Prop, ∀ i l σ', J i l σ' ↔ (LocLe [(Str.ofString "ins", .d (.tuple [sv "switch_on_structure", .tuple (t.map pairData), .int d])), (Str.ofString "key", .d (.tuple [sv "struct", k.word]))] l ∧ σ = σ' ∧
      (t.take i).find? (fun p => p.1 = k) = none) := ⟨_, fun _ _ _ => Iff.rfl⟩
    refine ⟨(t.map pairData).map .d, J, (hJ _ _ _).mpr ⟨?_, rfl, rfl⟩, fun i l σ' hj => rfl, ?_, ?_⟩
    · k_extra "lle"
    · intro i l σ' v hv hj
      obtain ⟨hl, rfl, hf⟩ := (hJ _ _ _).mp hj
      refine Tg.weak hl ?_
      obtain ⟨pd, hpd, rfl⟩ := map_get hv
      obtain ⟨p, hp, rfl⟩ := map_get hpd
      have hpk := ht p (List.mem_of_getElem? hp)
      refine Tg_pair O (by k_extra "kd") (by k_extra "kd") ?_
      k_extra "w"
      refine Op2_idxT (by decide) (by decide) (d := k.word) rfl ?_
      refine Op2_eq O (nice_word _) (nice_word _) fun b hb => ⟨_, rfl, ?_⟩
      have hb' : b = true ↔ p.1 = k := by rw [hb, word_ne (hpk.trans hkk.symm) (by rw [hpk]; simp)]
      cases b with
      | true =>
        k_extra "w"
        have e : targetF (.sos t d) k = p.2 := by
          have hsp : t = t.take i ++ p :: t.drop (i + 1) := by
            have h1 := (List.getElem?_eq_some_iff.mp hp)
            obtain ⟨hi, he⟩ := h1
            rw [← he, List.getElem_cons_drop, List.take_append_drop]
          show ((t.find? fun p => p.1 = k).map (·.2)).getD d = _
          rw [hsp, List.find?_append, hf, List.find?_cons]
          simp [hb'.mp rfl]
        rw [← e]
        exact h σ Ext.refl
      | false =>
        k_extra "w"
        refine (hJ _ _ _).mpr ⟨by k_extra "lle", rfl, ?_⟩
        have : ¬ p.1 = k := fun z => by have := hb'.mpr z; cases this
        rw [take_succ' hp, List.find?_append, hf]
        simp [this]
    · intro l σ' hj
      obtain ⟨hl, rfl, hf⟩ := (hJ _ _ _).mp hj
      refine Mine.Ex.weak hl ?_
      k_extra "w"
      refine Op2_idxT (by decide) (by decide) (d := .int d) rfl ?_
      rw [List.length_map, List.length_map, List.take_length] at hf
      have e : targetF (.sos t d) k = d := by
        show ((t.find? fun p => p.1 = k).map (·.2)).getD d = _
        rw [hf]; rfl
      rw [← e]
      exact h σ Ext.refl
end SLw2
section SLw3
variable {w : World} {base : Heap} {mg mb : Str → Option Value}
-- set_option profiler true
-- set_option profiler.threshold 1000
noncomputable def whPV (wh : List (Int × Int)) : List (Int × PV) := wh.map fun q => (q.1, intPV q.2)
theorem lkD_wh {g : Int} : ∀ {wh : List (Int × Int)}, lkD g (whPV wh) = (lookupW wh g).map intPV
  | [] => rfl
  | q :: wh => by
    simp only [whPV, List.map_cons, lkD, lookupW, List.find?_cons]
    by_cases h : q.1 = g
    · simp [h]
    · simp only [h, if_false, decide_false]; exact lkD_wh
theorem lookupW_none {g : Int} {wh : List (Int × Int)} (h : g ∉ wh.map (·.1)) : lookupW wh g = none := by
  unfold lookupW
  rw [List.find?_eq_none.mpr]
  · rfl
  · intro q hq hg
    exact h (by rw [← of_decide_eq_true hg]; exact List.mem_map.mpr ⟨q, hq, rfl⟩)
structure VH (σ₀ : Hp) (W : MO) (wr lf fd : Addr) (σ : Hp) (left : List Int) (found : List (Int × Int)) : Prop where
  E : Ext [] σ₀ σ
  w : σ wr = some W
  l : σ lf = some (iL left)
  f : σ fd = some (.list (found.map funPV))
  l0 : σ₀ lf = none
  f0 : σ₀ fd = none
  n1 : wr ≠ lf
  n2 : wr ≠ fd
  n3 : lf ≠ fd
theorem VH.left {σ₀ σ : Hp} {W : MO} {wr lf fd : Addr} {l l' : List Int} {f : List (Int × Int)} (H : VH σ₀ W wr lf fd σ l f) {mo : MO} (e : mo = iL l') : VH σ₀ W wr lf fd (setH σ lf mo) l' f := by
  subst e
  exact ⟨H.E.setNew H.l0, (setH_ne H.n1).trans H.w, setH_self, (setH_ne H.n3.symm).trans H.f, H.l0, H.f0, H.n1, H.n2, H.n3⟩
theorem VH.found {σ₀ σ : Hp} {W : MO} {wr lf fd : Addr} {l : List Int} {f f' : List (Int × Int)} (H : VH σ₀ W wr lf fd σ l f) {mo : MO} (e : mo = .list (f'.map funPV)) : VH σ₀ W wr lf fd (setH σ fd mo) l f' := by
  subst e
  exact ⟨H.E.setNew H.f0, (setH_ne H.n2).trans H.w, (setH_ne H.n3).trans H.l, setH_self, H.l0, H.f0, H.n1, H.n2, H.n3⟩
theorem VH.ext {σ₀ σ σ' : Hp} {W : MO} {wr lf fd : Addr} {l : List Int} {f : List (Int × Int)} (H : VH σ₀ W wr lf fd σ l f) (E : Ext [] σ σ') : VH σ₀ W wr lf fd σ' l f :=
  ⟨H.E.trans E, E _ _ (by simp) H.w, E _ _ (by simp) H.l, E _ _ (by simp) H.f, H.l0, H.f0, H.n1, H.n2, H.n3⟩
noncomputable def clauseOf (r : Ins) : Int := match r with | .label c => c | _ => -1
set_option maxHeartbeats 8000000 in
theorem F_visits (G : (gx w base mg mb).Ok) {σ : Hp} {bk : Addr} {L : List Ins} {many wide : Int} {k : Key} {out : List (Int × Int)} {Q} (hb : σ bk = some (.list (L.map insPV))) (hz : L.length ≤ 100000)
    (hnd : ((labelsOf L).map (·.1)).Nodup) (hrun : runF L many wide k 200 ⟨0, [], []⟩ = some out)
    (h : ∀ r σ', σ r = none → σ' r = some (.list (out.map funPV)) → Ext [] σ σ' → Q (.r r) σ') : FnC (gx w base mg mb) 2 (.ref 317) [.r bk, intPV many, intPV wide, .d k.toData] σ Q := by
  refine FnC_def G [Str.ofString "block", Str.ofString "many", Str.ofString "wide", Str.ofString "key"] (by exact rfl) (by kernel_rfl) (by (intro vs hvs; rcases vs with _ | ⟨a0, _ | ⟨a1, _ | ⟨a2, _ | ⟨a3, _ | ⟨a4, _ | ⟨a5, r⟩⟩⟩⟩⟩⟩ <;> first | (exfalso; simp at hvs; done) | rfl)) (by kernel_rfl) (by decide +kernel) ?_
  intro A F env O hsc
  dsimp only [List.zip, List.zipWith]
  k_extra "w"
  refine Ev_DictI O fun wr hwr => ?_
  k_extra "w"
  refine Ex1_cut (fun l σ' => LocLe [(Str.ofString "block", .r bk), (Str.ofString "many", intPV many), (Str.ofString "wide", intPV wide), (Str.ofString "key", .d k.toData), (Str.ofString "where", .r wr)] l ∧ Ext [] σ σ' ∧ σ' wr = some (.dI (whPV (labelsOf L)))) ?_ ?_
  · ((with_reducible refine' Ex1_For ?z235o ?z235h ?z235s); (case z235o => assumption); (case z235s => (intro _; rfl)))
    k_extra "g"
    k_extra "w"
    k_extra "g"
    k_extra "w"
    refine Fn_len (setH_new hwr hb) (by rw [List.length_map]; lia) ?_
    rw [List.length_map]
    k_extra "w"
    obtain ⟨J, hJ⟩ : ∃ J : Nat → Loc → Hp → Prop, ∀ i l σ', J i l σ' ↔ (LocLe [(Str.ofString "block", .r bk), (Str.ofString "many", intPV many), (Str.ofString "wide", intPV wide), (Str.ofString "key", .d k.toData), (Str.ofString "where", .r wr)] l ∧ Ext [] σ σ' ∧
      σ' wr = some (.dI (whPV ((L.zipIdx.take i).filterMap labelOf)))) := ⟨_, fun _ _ _ => Iff.rfl⟩
    refine Fn_range1 ⟨(upto 0 L.length).map fun i => .d (.int i), J, (hJ _ _ _).mpr ⟨?_, Ext.refl.new hwr, setH_self⟩, fun i l σ' hj => items_rng (by lia) (by lia) (by lia) (by lia), ?_, ?_⟩
    · k_extra "lle"
    · intro i l σ' v hv hj
      obtain ⟨hl, E, hw⟩ := (hJ _ _ _).mp hj
      refine Tg.weak hl ?_
      obtain ⟨rfl, hi⟩ := upto_get hv
      have hlt : i < L.length := by lia
      have hq : L.zipIdx[i]? = some (L[i], i) := by simp [hlt]
      have hbk := E _ _ (by simp) hb
      have hLi : (L.map insPV)[(0 + (i : Int)).toNat]? = some (.d (.tuple (sv L[i].name :: L[i].args))) := by
        rw [show (0 + (i : Int)).toNat = i by lia, List.getElem?_map, List.getElem?_eq_getElem hlt, ← Ins.data]; rfl
      have hstep : ∀ o, labelOf (L[i], i) = o → (L.zipIdx.take (i + 1)).filterMap labelOf = (L.zipIdx.take i).filterMap labelOf ++ o.toList := by
        intro o ho
        rw [take_succ' hq, List.filterMap_append]
        simp only [List.filterMap_cons, List.filterMap_nil, ho]
        cases o <;> rfl
      k_extra "w"
      refine Op2_idxL hbk (by lia) (by lia) hLi ?_
      k_extra "w"
      refine Op2_idxT (by decide) (by decide) (d := sv L[i].name) rfl ?_
      k_extra "w"
      refine Op2_eq O (Ins.nice_name _) (by decide +kernel) fun b hb' => ⟨_, rfl, ?_⟩
      have hb2 : b = true ↔ L[i].name = "label" := by rw [hb']; simp only [sv, PyData.str.injEq, ofString_inj]
      cases b with
      | false =>
        k_extra "w"
        refine (hJ _ _ _).mpr ⟨by k_extra "lle", E, ?_⟩
        have hn : labelOf (L[i], i) = none := by
          unfold labelOf
          split
          · rename_i l e
            have : L[i].name = "label" := by rw [show L[i] = .label l from e]; rfl
            have := hb2.mpr this
            cases this
          · rfl
        rw [hstep none hn, Option.toList_none, List.append_nil]
        exact hw
      | true =>
        obtain ⟨c, hc⟩ : ∃ c, L[i] = .label c := by
          have := hb2.mp rfl
          revert this
          cases L[i] <;> intro z <;> first | exact ⟨_, rfl⟩ | (simp [Ins.name] at z)
        have hn : labelOf (L[i], i) = some (c, (i : Int)) := by unfold labelOf; rw [hc]
        have hargs : L[i].args = [.int c] := by rw [hc]; rfl
        rw [hargs] at hLi
        have hnew : c ∉ ((L.zipIdx.take i).filterMap labelOf).map (·.1) := by
          have h1 : labelsOf L = (L.zipIdx.take i).filterMap labelOf ++ ((L.zipIdx.drop i).filterMap labelOf) := by
            unfold labelsOf
            rw [← List.filterMap_append, List.take_append_drop]
          rw [h1, List.map_append, List.nodup_append] at hnd
          intro hm
          refine hnd.2.2 c hm c ?_ rfl
          refine List.mem_map.mpr ⟨(c, (i : Int)), List.mem_filterMap.mpr ⟨(L[i], i), ?_, hn⟩, rfl⟩
          rw [List.mem_iff_getElem?]
          exact ⟨0, by rw [List.getElem?_drop]; simpa using hq⟩
        k_extra "w"
        refine Op2_idxL hbk (by lia) (by lia) hLi ?_
        k_extra "w"
        refine Op2_idxT (by decide) (by decide) (d := .int c) rfl ?_
        k_extra "w"
        refine Op2_inDI O hw ⟨_, rfl, ?_⟩
        rw [lkD_wh, lookupW_none hnew]
        (with_reducible refine' Eq.mpr (if_neg ?z236n) ?z236h; (case z236n => ((try simp only [decide_eq_true_eq, Option.map_none, Option.isSome_none, Option.map_some, Option.isSome_some, Bool.false_eq_true, not_false_eq_true, List.length_cons, List.length_map, List.length_nil, Bool.not_eq_true]); first | done | lia | assumption)))
        k_extra "w"
        refine Op2_idxL hbk (by lia) (by lia) hLi ?_
        k_extra "w"
        refine Op2_idxT (by decide) (by decide) (d := .int c) rfl ?_
        refine Op3_setDI O hw ?_ ?_
        · rw [whPV, List.length_map]
          refine Nat.le_trans (List.length_filterMap_le _ _) ?_
          rw [List.length_take]; lia
        have e : stD c (PV.d (.int (0 + (i : Int)))) (whPV ((L.zipIdx.take i).filterMap labelOf)) = whPV ((L.zipIdx.take i).filterMap labelOf ++ [(c, (i : Int))]) := by
          unfold stD
          rw [lkD_wh, lookupW_none hnew, Int.zero_add]
          simp [whPV]
        rw [e]
        k_extra "w"
        refine (hJ _ _ _).mpr ⟨by k_extra "lle", E.setNew (by
          cases q : σ wr with
          | none => rfl
          | some mo => rw [q] at hwr; cases hwr), ?_⟩
        rw [setH_self, hstep _ hn]; rfl
    · intro l σ' hj
      obtain ⟨hl, E, hw⟩ := (hJ _ _ _).mp hj
      rw [upto_len, show (((L.length : Nat) : Int) - 0).toNat = L.zipIdx.length by simp, List.take_length] at hw
      exact ⟨rfl, hl, E, hw⟩
  rintro l σ₁ ⟨hl, E₁, hw₁⟩
  refine Mine.Ex.weak hl ?_
  clear hl l
  k_extra "w"
  refine ⟨Nat.zero_le _, fun lf hlf => ?_⟩
  have hn0 : ∀ {a}, σ₁ a = none → σ a = none := fun {a} e => by
    cases q : σ a with
    | none => rfl
    | some mo => have := E₁ _ _ (by simp) q; rw [e] at this; cases this
  have nwl : wr ≠ lf := ne_of_some hlf hw₁
  k_extra "w"
  refine ⟨Nat.zero_le _, fun fd hfd => ?_⟩
  have nlf : lf ≠ fd := fun e => by rw [← e, setH_self] at hfd; cases hfd
  rw [setH_ne nlf.symm] at hfd
  have nwf : wr ≠ fd := ne_of_some hfd hw₁
  have H₀ : VH σ (.dI (whPV (labelsOf L))) wr lf fd (setH (setH σ₁ lf (.list [])) fd (.list [])) [] [] :=
    ⟨(E₁.setNew (hn0 hlf)).setNew (hn0 hfd), by rw [setH_ne nwf, setH_ne nwl]; exact hw₁, by rw [setH_ne nlf]; exact setH_self, setH_self, hn0 hlf, hn0 hfd, nwl, nwf, nlf⟩
  generalize setH (setH σ₁ lf (.list [])) fd (.list []) = σ₂ at *
  clear hw₁ E₁ hwr hn0 hlf hfd nwl nwf nlf
  k_extra "w"
  ((with_reducible refine' Ex1_For ?z237o ?z237h ?z237s); (case z237o => assumption); (case z237s => (intro _; rfl)))
  k_extra "g"
  k_extra "w"
  obtain ⟨J, hJ⟩ : ∃ J : Nat → Loc → Hp → Prop, ∀ i l σ', J i l σ' ↔ (∃ st n, n + i = 200 ∧ runF L many wide k n st = some out ∧ LocLe [(Str.ofString "block", .r bk), (Str.ofString "many", intPV many), (Str.ofString "wide", intPV wide), (Str.ofString "key", .d k.toData), (Str.ofString "where", .r wr), (Str.ofString "left", .r lf), (Str.ofString "found", .r fd), (Str.ofString "at", intPV st.at_)] l ∧
    VH σ (.dI (whPV (labelsOf L))) wr lf fd σ' st.left st.found ∧ st.left.length ≤ i ∧ st.found.length ≤ i) := ⟨_, fun _ _ _ => Iff.rfl⟩
  refine Fn_range1 ⟨(upto 0 200).map fun i => .d (.int i), J, (hJ _ _ _).mpr ⟨⟨0, [], []⟩, 200, rfl, hrun, ?_, H₀, Nat.zero_le _, Nat.zero_le _⟩, fun i l σ' hj => items_rng (by lia) (by lia) (by lia) (by lia), ?_, ?_⟩
  · k_extra "lle"
  · intro i l σ' v hv hj
    obtain ⟨st, n, hn, hr, hl, H, hz1, hz2⟩ := (hJ _ _ _).mp hj
    refine Tg.weak hl ?_
    obtain ⟨rfl, hi⟩ := upto_get hv
    obtain ⟨n, rfl⟩ : ∃ m, n = m + 1 := ⟨n - 1, by lia⟩
    obtain ⟨r, hat, hLr, hcases⟩ := turn_inv hr
    have hbk := H.E _ _ (by simp) hb
    have hLr' : (L.map insPV)[st.at_.toNat]? = some (.d (.tuple (sv r.name :: r.args))) := by
      rw [List.getElem?_map, hLr, ← Ins.data]; rfl
    have hatlt := (List.getElem?_eq_some_iff.mp hLr).1
    k_extra "w"
    refine Op2_idxL hbk hat (by lia) hLr' ?_
    k_extra "1"
    k_extra "1"
    k_extra "1"
    k_extra "1"
    k_extra "1"
    k_extra "1"
    refine Ex1_cut (fun l σ'' => σ' = σ'' ∧ LocLe [(Str.ofString "block", .r bk), (Str.ofString "many", intPV many), (Str.ofString "wide", intPV wide), (Str.ofString "key", .d k.toData), (Str.ofString "where", .r wr), (Str.ofString "left", .r lf), (Str.ofString "found", .r fd), (Str.ofString "at", intPV st.at_), (Str.ofString "ins", .d (.tuple (sv r.name :: r.args))), (Str.ofString "clause", intPV (clauseOf r))] l) ?_ ?_
    · k_extra "w"
      refine Op2_idxT (by decide) (by decide) (d := sv r.name) rfl ?_
      k_extra "w"
      refine Op2_eq O (Ins.nice_name _) (by decide +kernel) fun b hb' => ⟨_, rfl, ?_⟩
      have hb2 : b = true ↔ r.name = "label" := by rw [hb']; simp only [sv, PyData.str.injEq, ofString_inj]
      cases b with
      | true =>
        obtain ⟨c, rfl⟩ : ∃ c, r = .label c := by
          have := hb2.mp rfl
          revert this
          cases r <;> intro z <;> first | exact ⟨_, rfl⟩ | (simp [Ins.name] at z)
        k_extra "w"
        refine Op2_idxT (by decide) (by decide) (d := .int c) rfl ?_
        k_extra "w"
        refine ⟨rfl, rfl, ?_⟩
        k_extra "lle"
      | false =>
        k_extra "w"
        refine ⟨rfl, rfl, ?_⟩
        have e : clauseOf r = -1 := by
          cases r <;> first | rfl | (have := hb2.mpr rfl; cases this)
        rw [e]
        k_extra "lle"
    rintro l₁ _ ⟨rfl, hl₁⟩
    refine Mine.Ex.weak hl₁ ?_
    clear hl₁ l₁
    k_extra "1"
    refine Ex1_cut' (fun l σ' => ∃ left found, LocLe [(Str.ofString "block", .r bk), (Str.ofString "many", intPV many), (Str.ofString "wide", intPV wide), (Str.ofString "key", .d k.toData), (Str.ofString "where", .r wr), (Str.ofString "left", .r lf), (Str.ofString "found", .r fd)] l ∧ VH σ (.dI (whPV (labelsOf L))) wr lf fd σ' left found ∧ afterF (runF L many wide k n) left found = some out ∧ left.length ≤ i + 1 ∧ found.length ≤ i + 1) ?_ ?_
    · k_extra "1"
      ((with_reducible refine' IsT_chain ?z238o ?z238h ?z238e); (case z238o => assumption); (case z238e => with_unfolding_all rfl))
      k_extra "w"
      refine ⟨0, rfl, ?_⟩
      k_extra "w"
      refine ⟨clauseOf r, rfl, ?_⟩
      rcases hcases with ⟨c, rfl, hc0, hcm, haft⟩ | ⟨c, rfl, hcn, hgo⟩ | ⟨hct, lfn, heff, hgo⟩
      · have e : clauseOf (.label c) = c := rfl
        rw [e]
        (with_reducible refine' Eq.mpr (if_pos ?z239n) ?z239h; (case z239n => ((try simp only [decide_eq_true_eq, Option.map_none, Option.isSome_none, Option.map_some, Option.isSome_some, Bool.false_eq_true, not_false_eq_true, List.length_cons, List.length_map, List.length_nil, Bool.not_eq_true]); first | done | lia | assumption)))
        k_extra "w"
        refine ⟨many, rfl, ?_⟩
        (with_reducible refine' Eq.mpr (if_pos ?z240n) ?z240h; (case z240n => ((try simp only [decide_eq_true_eq, Option.map_none, Option.isSome_none, Option.map_some, Option.isSome_some, Bool.false_eq_true, not_false_eq_true, List.length_cons, List.length_map, List.length_nil, Bool.not_eq_true]); first | done | lia | assumption)))
        k_extra "w"
        refine ⟨_, _, rfl, H.f, ?_⟩
        k_extra "w"
        k_extra "g"
        k_extra "w"
        refine Fn_len H.l (by rw [List.length_map]; lia) ?_
        rw [List.length_map]
        k_extra "w"
        (first | refine ⟨[_], rfl, Nat.le_of_ble_eq_true rfl, ?_⟩ | refine ⟨[_, _], rfl, Nat.le_of_ble_eq_true rfl, ?_⟩ | refine ⟨[_, _, _], rfl, Nat.le_of_ble_eq_true rfl, ?_⟩ | refine ⟨[_, _, _, _], rfl, Nat.le_of_ble_eq_true rfl, ?_⟩ | refine ⟨[_, _, _, _, _], rfl, Nat.le_of_ble_eq_true rfl, ?_⟩)
        refine ⟨_, H.f, by rw [List.length_map]; lia, ?_⟩
        have H' := H.found (f' := st.found ++ [(c, (st.left.length : Int))]) (mo := .list (st.found.map funPV ++ [.d (.tuple [.int c, .int st.left.length])])) (by rw [List.map_append]; rfl)
        k_extra "w"
        refine ⟨_, _, ?_, H', haft, by lia, by simp; lia⟩
        k_extra "lle"
      · have e : clauseOf (.label c) = c := rfl
        rw [e]
        by_cases h0 : 0 ≤ c
        · (with_reducible refine' Eq.mpr (if_pos ?z242n) ?z242h; (case z242n => ((try simp only [decide_eq_true_eq, Option.map_none, Option.isSome_none, Option.map_some, Option.isSome_some, Bool.false_eq_true, not_false_eq_true, List.length_cons, List.length_map, List.length_nil, Bool.not_eq_true]); first | done | lia | assumption)))
          k_extra "w"
          refine ⟨many, rfl, ?_⟩
          (with_reducible refine' Eq.mpr (if_neg ?z243n) ?z243h; (case z243n => ((try simp only [decide_eq_true_eq, Option.map_none, Option.isSome_none, Option.map_some, Option.isSome_some, Bool.false_eq_true, not_false_eq_true, List.length_cons, List.length_map, List.length_nil, Bool.not_eq_true]); first | done | lia | assumption)))
          k_extra "w"
          refine Op2_idxT (by decide) (by decide) (d := sv "label") rfl ?_
          k_extra "w"
          (first | (refine Op2_eqS_self (by assumption) (by decide +kernel) ⟨_, rfl, ?_⟩) | (refine Op2_eqS_ne (by assumption) (by decide +kernel) (by decide +kernel) (by (simp only [ne_eq, sv, PyData.str.injEq, ofString_inj, String.reduceEq, not_false_eq_true])) ⟨_, rfl, ?_⟩))
          k_extra "w"
          refine (hJ _ _ _).mpr ⟨⟨st.at_ + 1, st.left, st.found⟩, n, by lia, hgo, ?_, H, Nat.le_succ_of_le hz1, Nat.le_succ_of_le hz2⟩
          k_extra "lle"
        · (with_reducible refine' Eq.mpr (if_neg ?z246n) ?z246h; (case z246n => ((try simp only [decide_eq_true_eq, Option.map_none, Option.isSome_none, Option.map_some, Option.isSome_some, Bool.false_eq_true, not_false_eq_true, List.length_cons, List.length_map, List.length_nil, Bool.not_eq_true]); first | done | lia | assumption)))
          k_extra "w"
          refine Op2_idxT (by decide) (by decide) (d := sv "label") rfl ?_
          k_extra "w"
          (first | (refine Op2_eqS_self (by assumption) (by decide +kernel) ⟨_, rfl, ?_⟩) | (refine Op2_eqS_ne (by assumption) (by decide +kernel) (by decide +kernel) (by (simp only [ne_eq, sv, PyData.str.injEq, ofString_inj, String.reduceEq, not_false_eq_true])) ⟨_, rfl, ?_⟩))
          k_extra "w"
          refine (hJ _ _ _).mpr ⟨⟨st.at_ + 1, st.left, st.found⟩, n, by lia, hgo, ?_, H, Nat.le_succ_of_le hz1, Nat.le_succ_of_le hz2⟩
          k_extra "lle"
      · have hnl : r.name ≠ "label" := by intro z; cases r <;> first | (simp [Ins.name] at z; done) | (cases hct)
        have e : clauseOf r = -1 := by cases r <;> first | rfl | (cases hct)
        rw [e]
        (with_reducible refine' Eq.mpr (if_neg ?z249n) ?z249h; (case z249n => ((try simp only [decide_eq_true_eq, Option.map_none, Option.isSome_none, Option.map_some, Option.isSome_some, Bool.false_eq_true, not_false_eq_true, List.length_cons, List.length_map, List.length_nil, Bool.not_eq_true]); first | done | lia | assumption)))
        k_extra "w"
        refine Op2_idxT (by decide) (by decide) (d := sv r.name) rfl ?_
        k_extra "w"
        refine Op2_eqS_ne O (Ins.nice_name _) (by decide +kernel) (by intro z; simp only [sv, PyData.str.injEq, ofString_inj] at z; exact hnl z) ⟨_, rfl, ?_⟩
        k_extra "1"
        k_extra "1"
        refine Ex1_cut (fun l σ' => LocLe [(Str.ofString "block", .r bk), (Str.ofString "many", intPV many), (Str.ofString "wide", intPV wide), (Str.ofString "key", .d k.toData), (Str.ofString "where", .r wr), (Str.ofString "left", .r lf), (Str.ofString "found", .r fd), (Str.ofString "at", intPV st.at_), (Str.ofString "ins", .d (.tuple (sv r.name :: r.args)))] l ∧ VH σ (.dI (whPV (labelsOf L))) wr lf fd σ' lfn st.found ∧ lfn.length ≤ i + 1) ?_ ?_
        · cases r with
          | fail => cases hct
          | label c => cases hct
          | getc a b => cases hct
          | proceed => cases hct
          | try_ l ar =>
            dsimp only [Ins.name, Ins.args]
            k_extra "w"
            refine Op2_idxT (by decide) (by decide) (d := sv "try") rfl ?_
            k_extra "w"
            (first | (refine Op2_eqS_self (by assumption) (by decide +kernel) ⟨_, rfl, ?_⟩) | (refine Op2_eqS_ne (by assumption) (by decide +kernel) (by decide +kernel) (by (simp only [ne_eq, sv, PyData.str.injEq, ofString_inj, String.reduceEq, not_false_eq_true])) ⟨_, rfl, ?_⟩))
            simp only [effectF] at heff
            split at heff
            · rename_i har
              subst har
              cases heff
              k_extra "w"
              refine Op2_idxT (by decide) (by decide) (d := .int ar) rfl ?_
              k_extra "w"
              (try (with_reducible refine' Eq.mpr (if_neg ?z252n) ?z252h; (case z252n => ((try simp only [decide_eq_true_eq, Option.map_none, Option.isSome_none, Option.map_some, Option.isSome_some, Bool.false_eq_true, not_false_eq_true, List.length_cons, List.length_map, List.length_nil, Bool.not_eq_true]); first | done | lia | assumption))))
              k_extra "w"
              refine ⟨_, _, rfl, H.l, ?_⟩
              k_extra "w"
              refine ⟨_, H.l, by rw [List.length_map]; lia, ?_⟩
              k_extra "w"
              refine ⟨rfl, by k_extra "lle", H.left (by rw [iL, List.map_append]; rfl), by simp; lia⟩
            · cases heff
          | retry l =>
            dsimp only [Ins.name, Ins.args]
            k_extra "w"
            refine Op2_idxT (by decide) (by decide) (d := sv "retry") rfl ?_
            k_extra "w"
            (first | (refine Op2_eqS_self (by assumption) (by decide +kernel) ⟨_, rfl, ?_⟩) | (refine Op2_eqS_ne (by assumption) (by decide +kernel) (by decide +kernel) (by (simp only [ne_eq, sv, PyData.str.injEq, ofString_inj, String.reduceEq, not_false_eq_true])) ⟨_, rfl, ?_⟩))
            k_extra "w"
            refine Op2_idxT (by decide) (by decide) (d := sv "retry") rfl ?_
            k_extra "w"
            (first | (refine Op2_eqS_self (by assumption) (by decide +kernel) ⟨_, rfl, ?_⟩) | (refine Op2_eqS_ne (by assumption) (by decide +kernel) (by decide +kernel) (by (simp only [ne_eq, sv, PyData.str.injEq, ofString_inj, String.reduceEq, not_false_eq_true])) ⟨_, rfl, ?_⟩))
            simp only [effectF] at heff
            split at heff
            · cases heff
            · rename_i hne
              cases heff
              have hpos : 0 < st.left.length := List.length_pos_iff.mpr hne
              k_extra "w"
              refine Op3_setLneg O H.l (by decide) (by rw [List.length_map]; lia) (by decide) ?_
              k_extra "w"
              refine ⟨rfl, by k_extra "lle", H.left (l' := st.left.dropLast ++ [st.at_ + 1]) ?_, by simp; lia⟩
              rw [List.length_map, show ((-1 : Int) + (st.left.length : Int)).toNat = st.left.length - 1 by lia, iL, List.map_append]
              congr 1
              have := List.dropLast_concat_getLast hne
              generalize hdl : st.left.dropLast = dl at *
              generalize st.left.getLast hne = gl at *
              rw [← this]
              simp
          | trust l =>
            dsimp only [Ins.name, Ins.args]
            k_extra "w"
            refine Op2_idxT (by decide) (by decide) (d := sv "trust") rfl ?_
            k_extra "w"
            (first | (refine Op2_eqS_self (by assumption) (by decide +kernel) ⟨_, rfl, ?_⟩) | (refine Op2_eqS_ne (by assumption) (by decide +kernel) (by decide +kernel) (by (simp only [ne_eq, sv, PyData.str.injEq, ofString_inj, String.reduceEq, not_false_eq_true])) ⟨_, rfl, ?_⟩))
            k_extra "w"
            refine Op2_idxT (by decide) (by decide) (d := sv "trust") rfl ?_
            k_extra "w"
            (first | (refine Op2_eqS_self (by assumption) (by decide +kernel) ⟨_, rfl, ?_⟩) | (refine Op2_eqS_ne (by assumption) (by decide +kernel) (by decide +kernel) (by (simp only [ne_eq, sv, PyData.str.injEq, ofString_inj, String.reduceEq, not_false_eq_true])) ⟨_, rfl, ?_⟩))
            k_extra "w"
            refine Op2_idxT (by decide) (by decide) (d := sv "trust") rfl ?_
            k_extra "w"
            (first | (refine Op2_eqS_self (by assumption) (by decide +kernel) ⟨_, rfl, ?_⟩) | (refine Op2_eqS_ne (by assumption) (by decide +kernel) (by decide +kernel) (by (simp only [ne_eq, sv, PyData.str.injEq, ofString_inj, String.reduceEq, not_false_eq_true])) ⟨_, rfl, ?_⟩))
            simp only [effectF] at heff
            split at heff
            · cases heff
            · rename_i hne
              cases heff
              have hpos : 0 < st.left.length := List.length_pos_iff.mpr hne
              k_extra "w"
              ((with_reducible refine' k_CallMB (id := "list.pop") ?z263o ?z263h ?z263e ?z263p); (case z263o => assumption); (case z263e => rfl); (case z263p => kernel_rfl))
              k_extra "w"
              refine ⟨gm_list H.l PySem.F.slot_list_pop PySem.F.type_list_pop, ?_⟩
              k_extra "w"
              refine Fn_pop (xs := st.left.dropLast.map intPV) (x := intPV (st.left.getLast hne)) ?_ (by rw [List.length_map, List.length_dropLast]; lia) ?_
              · rw [H.l, iL]
                conv => lhs; rw [← List.dropLast_concat_getLast hne]
                rw [List.map_append]; rfl
              refine ⟨trivial, ?_⟩
              k_extra "w"
              refine ⟨rfl, by k_extra "lle", H.left rfl, by simp; lia⟩
          | sot v c l s =>
            dsimp only [Ins.name, Ins.args]
            k_extra "w"
            refine Op2_idxT (by decide) (by decide) (d := sv "switch_on_term") rfl ?_
            k_extra "w"
            (first | (refine Op2_eqS_self (by assumption) (by decide +kernel) ⟨_, rfl, ?_⟩) | (refine Op2_eqS_ne (by assumption) (by decide +kernel) (by decide +kernel) (by (simp only [ne_eq, sv, PyData.str.injEq, ofString_inj, String.reduceEq, not_false_eq_true])) ⟨_, rfl, ?_⟩))
            k_extra "w"
            refine Op2_idxT (by decide) (by decide) (d := sv "switch_on_term") rfl ?_
            k_extra "w"
            (first | (refine Op2_eqS_self (by assumption) (by decide +kernel) ⟨_, rfl, ?_⟩) | (refine Op2_eqS_ne (by assumption) (by decide +kernel) (by decide +kernel) (by (simp only [ne_eq, sv, PyData.str.injEq, ofString_inj, String.reduceEq, not_false_eq_true])) ⟨_, rfl, ?_⟩))
            k_extra "w"
            refine Op2_idxT (by decide) (by decide) (d := sv "switch_on_term") rfl ?_
            k_extra "w"
            (first | (refine Op2_eqS_self (by assumption) (by decide +kernel) ⟨_, rfl, ?_⟩) | (refine Op2_eqS_ne (by assumption) (by decide +kernel) (by decide +kernel) (by (simp only [ne_eq, sv, PyData.str.injEq, ofString_inj, String.reduceEq, not_false_eq_true])) ⟨_, rfl, ?_⟩))
            k_extra "w"
            refine Op2_idxT (by decide) (by decide) (d := sv "switch_on_term") rfl ?_
            k_extra "w"
            (first | refine ⟨[_], rfl, Nat.le_of_ble_eq_true rfl, ?_⟩ | refine ⟨[_, _], rfl, Nat.le_of_ble_eq_true rfl, ?_⟩ | refine ⟨[_, _, _], rfl, Nat.le_of_ble_eq_true rfl, ?_⟩ | refine ⟨[_, _, _, _], rfl, Nat.le_of_ble_eq_true rfl, ?_⟩ | refine ⟨[_, _, _, _, _], rfl, Nat.le_of_ble_eq_true rfl, ?_⟩)
            refine Op2_notinT_yes O (by decide +kernel) (by decide +kernel) (by (simp only [List.mem_cons, List.not_mem_nil, or_false, sv, PyData.str.injEq, ofString_inj, String.reduceEq, or_self, or_true, true_or, not_false_eq_true])) ⟨_, rfl, ?_⟩
            k_extra "w"
            refine ⟨rfl, by k_extra "lle", ?_⟩
            simp only [effectF, Option.some.injEq] at heff
            subst heff
            exact ⟨H, by lia⟩
          | soc t d =>
            dsimp only [Ins.name, Ins.args]
            k_extra "w"
            refine Op2_idxT (by decide) (by decide) (d := sv "switch_on_constant") rfl ?_
            k_extra "w"
            (first | (refine Op2_eqS_self (by assumption) (by decide +kernel) ⟨_, rfl, ?_⟩) | (refine Op2_eqS_ne (by assumption) (by decide +kernel) (by decide +kernel) (by (simp only [ne_eq, sv, PyData.str.injEq, ofString_inj, String.reduceEq, not_false_eq_true])) ⟨_, rfl, ?_⟩))
            k_extra "w"
            refine Op2_idxT (by decide) (by decide) (d := sv "switch_on_constant") rfl ?_
            k_extra "w"
            (first | (refine Op2_eqS_self (by assumption) (by decide +kernel) ⟨_, rfl, ?_⟩) | (refine Op2_eqS_ne (by assumption) (by decide +kernel) (by decide +kernel) (by (simp only [ne_eq, sv, PyData.str.injEq, ofString_inj, String.reduceEq, not_false_eq_true])) ⟨_, rfl, ?_⟩))
            k_extra "w"
            refine Op2_idxT (by decide) (by decide) (d := sv "switch_on_constant") rfl ?_
            k_extra "w"
            (first | (refine Op2_eqS_self (by assumption) (by decide +kernel) ⟨_, rfl, ?_⟩) | (refine Op2_eqS_ne (by assumption) (by decide +kernel) (by decide +kernel) (by (simp only [ne_eq, sv, PyData.str.injEq, ofString_inj, String.reduceEq, not_false_eq_true])) ⟨_, rfl, ?_⟩))
            k_extra "w"
            refine Op2_idxT (by decide) (by decide) (d := sv "switch_on_constant") rfl ?_
            k_extra "w"
            (first | refine ⟨[_], rfl, Nat.le_of_ble_eq_true rfl, ?_⟩ | refine ⟨[_, _], rfl, Nat.le_of_ble_eq_true rfl, ?_⟩ | refine ⟨[_, _, _], rfl, Nat.le_of_ble_eq_true rfl, ?_⟩ | refine ⟨[_, _, _, _], rfl, Nat.le_of_ble_eq_true rfl, ?_⟩ | refine ⟨[_, _, _, _, _], rfl, Nat.le_of_ble_eq_true rfl, ?_⟩)
            refine Op2_notinT_yes O (by decide +kernel) (by decide +kernel) (by (simp only [List.mem_cons, List.not_mem_nil, or_false, sv, PyData.str.injEq, ofString_inj, String.reduceEq, or_self, or_true, true_or, not_false_eq_true])) ⟨_, rfl, ?_⟩
            k_extra "w"
            refine ⟨rfl, by k_extra "lle", ?_⟩
            simp only [effectF, Option.some.injEq] at heff
            subst heff
            exact ⟨H, by lia⟩
          | sos t d =>
            dsimp only [Ins.name, Ins.args]
            k_extra "w"
            refine Op2_idxT (by decide) (by decide) (d := sv "switch_on_structure") rfl ?_
            k_extra "w"
            (first | (refine Op2_eqS_self (by assumption) (by decide +kernel) ⟨_, rfl, ?_⟩) | (refine Op2_eqS_ne (by assumption) (by decide +kernel) (by decide +kernel) (by (simp only [ne_eq, sv, PyData.str.injEq, ofString_inj, String.reduceEq, not_false_eq_true])) ⟨_, rfl, ?_⟩))
            k_extra "w"
            refine Op2_idxT (by decide) (by decide) (d := sv "switch_on_structure") rfl ?_
            k_extra "w"
            (first | (refine Op2_eqS_self (by assumption) (by decide +kernel) ⟨_, rfl, ?_⟩) | (refine Op2_eqS_ne (by assumption) (by decide +kernel) (by decide +kernel) (by (simp only [ne_eq, sv, PyData.str.injEq, ofString_inj, String.reduceEq, not_false_eq_true])) ⟨_, rfl, ?_⟩))
            k_extra "w"
            refine Op2_idxT (by decide) (by decide) (d := sv "switch_on_structure") rfl ?_
            k_extra "w"
            (first | (refine Op2_eqS_self (by assumption) (by decide +kernel) ⟨_, rfl, ?_⟩) | (refine Op2_eqS_ne (by assumption) (by decide +kernel) (by decide +kernel) (by (simp only [ne_eq, sv, PyData.str.injEq, ofString_inj, String.reduceEq, not_false_eq_true])) ⟨_, rfl, ?_⟩))
            k_extra "w"
            refine Op2_idxT (by decide) (by decide) (d := sv "switch_on_structure") rfl ?_
            k_extra "w"
            (first | refine ⟨[_], rfl, Nat.le_of_ble_eq_true rfl, ?_⟩ | refine ⟨[_, _], rfl, Nat.le_of_ble_eq_true rfl, ?_⟩ | refine ⟨[_, _, _], rfl, Nat.le_of_ble_eq_true rfl, ?_⟩ | refine ⟨[_, _, _, _], rfl, Nat.le_of_ble_eq_true rfl, ?_⟩ | refine ⟨[_, _, _, _, _], rfl, Nat.le_of_ble_eq_true rfl, ?_⟩)
            refine Op2_notinT_yes O (by decide +kernel) (by decide +kernel) (by (simp only [List.mem_cons, List.not_mem_nil, or_false, sv, PyData.str.injEq, ofString_inj, String.reduceEq, or_self, or_true, true_or, not_false_eq_true])) ⟨_, rfl, ?_⟩
            k_extra "w"
            refine ⟨rfl, by k_extra "lle", ?_⟩
            simp only [effectF, Option.some.injEq] at heff
            subst heff
            exact ⟨H, by lia⟩
        rintro l₁ σ₁ ⟨hl₁, H₁, hz3⟩
        refine Mine.Ex.weak hl₁ ?_
        clear hl₁ l₁
        k_extra "w"
        k_extra "g"
        k_extra "w"
        rw [← Ins.data]
        refine (F_target G hct fun σ₃ E₃ => ?_).fn
        have H₃ := H₁.ext E₃
        k_extra "w"
        rcases hgo with ⟨ht, a, ha, hgo⟩ | ⟨ht, haft⟩
        · (with_reducible refine' Eq.mpr (if_pos ?z288n) ?z288h; (case z288n => ((try simp only [decide_eq_true_eq, Option.map_none, Option.isSome_none, Option.map_some, Option.isSome_some, Bool.false_eq_true, not_false_eq_true, List.length_cons, List.length_map, List.length_nil, Bool.not_eq_true]); first | done | lia | assumption)))
          k_extra "w"
          refine Op2_notinDI O H₃.w ⟨_, rfl, ?_⟩
          rw [lkD_wh, ha, Option.map_some, Option.isSome_some, Bool.not_true]
          k_extra "w"
          k_extra "w"
          refine Op2_idxDI H₃.w (pv := intPV a) (by rw [lkD_wh, ha]; rfl) ?_
          k_extra "w"
          refine (hJ _ _ _).mpr ⟨⟨a, lfn, st.found⟩, n, by lia, hgo, ?_, H₃, hz3, Nat.le_succ_of_le hz2⟩
          k_extra "lle"
        · (with_reducible refine' Eq.mpr (if_neg ?z289n) ?z289h; (case z289n => ((try simp only [decide_eq_true_eq, Option.map_none, Option.isSome_none, Option.map_some, Option.isSome_some, Bool.false_eq_true, not_false_eq_true, List.length_cons, List.length_map, List.length_nil, Bool.not_eq_true]); first | done | lia | assumption)))
          k_extra "w"
          refine ⟨lfn, st.found, ?_, H₃, haft, hz3, by lia⟩
          k_extra "lle"
    · rintro l₁ σ₁ ⟨left, found, hl₁, H₁, haft, hz3, hz4⟩
      refine Mine.Ex.weak hl₁ ?_
      clear hl₁ l₁
      k_extra "w"
      refine ⟨Nat.zero_le _, fun e he => ?_⟩
      have H₂ := H₁.ext (Ext.refl.new (mo := .list []) he)
      refine Op2_eqL (xs := left.map .int) (ys := []) O (by rw [List.map_map]; exact H₂.l) setH_self (by intro d hd; obtain ⟨i, _, rfl⟩ := List.mem_map.mp hd; rfl) (by simp) fun b hb => ⟨_, rfl, ?_⟩
      rw [List.map_eq_nil_iff] at hb
      rcases after_inv haft with ⟨rfl, rfl⟩ | ⟨ls, a, rfl, hgo⟩
      · rw [hb.mpr rfl]
        k_extra "w"
        exact h fd _ H₂.f0 H₂.f H₂.E
      · have : b = false := by
          cases b with
          | false => rfl
          | true => have := hb.mp rfl; simp at this
        subst this
        k_extra "w"
        refine Op2_idxLneg H₂.l (by decide) (by simp; lia) (by decide) (pv := intPV a) ?_ ?_
        · rw [List.map_append, List.length_append, List.length_map, List.map_singleton, List.length_singleton, show ((-1 : Int) + ((ls.length + 1 : Nat) : Int)).toNat = ls.length by lia]
          rw [List.getElem?_append_right (by simp)]
          simp
        k_extra "w"
        refine (hJ _ _ _).mpr ⟨⟨a, ls ++ [a], found⟩, n, by lia, hgo, ?_, H₂, hz3, hz4⟩
        k_extra "lle"
  · intro l σ' hj
    obtain ⟨st, n, hn, hr, _⟩ := (hJ _ _ _).mp hj
    rw [upto_len] at hn
    have : n = 0 := by lia
    subst this
    cases hr
end SLw3
section SPl1
noncomputable def lab : Ins → Option Int
  | .label l => some l
  | _ => none
noncomputable def labs (L : List Ins) : List Int := L.filterMap lab
theorem labelOf_eq (r : Ins) (k : Nat) : labelOf (r, k) = (lab r).map fun l => (l, (k : Int)) := by cases r <;> rfl
theorem labelsOf_fst (L : List Ins) : (labelsOf L).map (·.1) = labs L := by
  unfold labelsOf labs
  have : ∀ (L : List Ins) (k : Nat), ((L.zipIdx k).filterMap labelOf).map (·.1) = L.filterMap lab := by
    intro L
    induction L with
    | nil => intro k; rfl
    | cons r L ih =>
      intro k
      rw [List.zipIdx_cons, List.filterMap_cons, List.filterMap_cons, labelOf_eq]
      cases lab r with
      | none => exact ih _
      | some l => exact congrArg _ (ih _)
  exact this L 0
theorem mem_labelsOf {L : List Ins} {a : Nat} {l : Int} (h : L[a]? = some (.label l)) : (l, (a : Int)) ∈ labelsOf L := by
  refine List.mem_filterMap.mpr ⟨(.label l, a), ?_, rfl⟩
  rw [List.mem_iff_getElem?]
  exact ⟨a, by simp [List.getElem?_zipIdx, h]⟩
theorem lookupW_of {W : List (Int × Int)} {l a : Int} (hn : (W.map (·.1)).Nodup) (hm : (l, a) ∈ W) : lookupW W l = some a := by
  induction W with
  | nil => cases hm
  | cons q W ih =>
    rw [List.map_cons, List.nodup_cons] at hn
    unfold lookupW
    rw [List.find?_cons]
    rcases List.mem_cons.mp hm with e | e
    · subst e; simp
    · have : q.1 ≠ l := fun z => hn.1 (z ▸ List.mem_map.mpr ⟨(l, a), e, rfl⟩)
      simp only [this, decide_false]
      exact ih hn.2 e
section
variable (L : List Ins) (m wide : Int) (k : Key)
/-- from row a on: these are visited, then back -/
noncomputable def RunAt (a : Int) (M : Nat → List (Int × Int)) (c : Nat) : Prop :=
  ∀ n left found out, afterF (runF L m wide k n) left (found ++ M left.length) = some out → runF L m wide k (n + c) ⟨a, left, found⟩ = some out
noncomputable def Jmp (l : Int) (M : Nat → List (Int × Int)) (c : Nat) : Prop :=
  (0 ≤ l ∧ ∃ a, lookupW (labelsOf L) l = some a ∧ RunAt L m wide k a M c) ∨ (l < 0 ∧ ∀ d, M d = [])
end
section
variable {L : List Ins} {m wide : Int} {k : Key}
theorem afterF_mono {run run' : VS → Option (List (Int × Int))} {out : List (Int × Int)} (h : ∀ s, run s = some out → run' s = some out) {left : List Int} {found : List (Int × Int)} (e : afterF run left found = some out) : afterF run' left found = some out := by
  unfold afterF at e ⊢
  split at e
  · exact e
  · exact h _ e
theorem turnF_mono {run run' : VS → Option (List (Int × Int))} {out : List (Int × Int)} (h : ∀ s, run s = some out → run' s = some out) {s : VS} (e : turnF L m wide k run s = some out) : turnF L m wide k run' s = some out := by
  unfold turnF at e ⊢
  split at e
  · cases e
  · rename_i h0
    rw [if_neg h0]
    split at e
    · cases e
    · rename_i c hc
      split at e
      · rename_i h1
        rw [if_pos h1]; exact afterF_mono h e
      · rename_i h1
        rw [if_neg h1]; exact h _ e
    · rename_i r hnl hr
      split at e
      · rename_i hct
        rw [if_pos hct]
        split at e
        · cases e
        · rename_i lf he
          split at e
          · rename_i ht
            rw [if_pos ht]
            split at e
            · exact h _ e
            · cases e
          · rename_i ht
            rw [if_neg ht]; exact afterF_mono h e
      · cases e
theorem runF_succ {out : List (Int × Int)} : ∀ (n : Nat) (s : VS), runF L m wide k n s = some out → runF L m wide k (n + 1) s = some out
  | 0, s, e => by cases e
  | n + 1, s, e => turnF_mono (fun s' => runF_succ n s') e
theorem runF_le {out : List (Int × Int)} {n n' : Nat} (h : n ≤ n') {s : VS} (e : runF L m wide k n s = some out) : runF L m wide k n' s = some out := by
  obtain ⟨d, rfl⟩ := Nat.exists_eq_add_of_le h
  induction d with
  | zero => exact e
  | succ d ih => exact runF_succ _ _ (ih (Nat.le_add_right _ _))
theorem RunAt.le {a : Int} {M : Nat → List (Int × Int)} {c c' : Nat} (h : RunAt L m wide k a M c) (hc : c ≤ c') : RunAt L m wide k a M c' := fun n left found out e => runF_le (by lia) (h n left found out e)
theorem Jmp.le {a : Int} {M : Nat → List (Int × Int)} {c c' : Nat} (h : Jmp L m wide k a M c) (hc : c ≤ c') : Jmp L m wide k a M c' := by
  rcases h with ⟨h0, a', h1, h2⟩ | h
  · exact .inl ⟨h0, a', h1, h2.le hc⟩
  · exact .inr h
theorem run_target {a : Nat} {r : Ins} {left lf : List Int} {found : List (Int × Int)} {M : Nat → List (Int × Int)} {c n : Nat} {out : List (Int × Int)} (hr : L[a]? = some r) (hc : canTarget r k = true) (he : effectF r ⟨a, left, found⟩ wide = some lf) (hj : Jmp L m wide k (targetF r k) M c)
    (h : afterF (runF L m wide k n) lf (found ++ M lf.length) = some out) : runF L m wide k (n + c + 1) ⟨a, left, found⟩ = some out := by
  show turnF L m wide k (runF L m wide k (n + c)) ⟨a, left, found⟩ = some out
  unfold turnF
  have ha : ¬ ((a : Int) < 0) := by lia
  simp only [if_neg ha, Int.toNat_natCast, hr]
  have hnl : ∀ l, r ≠ .label l := fun l e => by subst e; cases hc
  split
  · rename_i e; cases e
  · rename_i e; cases e; exact absurd rfl (hnl _)
  · rename_i r' _ e
    cases e
    rw [if_pos hc, he]
    simp only
    rcases hj with ⟨h0, a', hl, hR⟩ | ⟨h0, hM⟩
    · rw [if_pos h0, hl]
      exact hR n lf found out h
    · rw [if_neg (by lia)]
      rw [hM, List.append_nil] at h
      exact afterF_mono (fun s e => runF_le (by lia) e) h
theorem run_sw {a : Nat} {r : Ins} {M : Nat → List (Int × Int)} {c : Nat} (hr : L[a]? = some r) (hc : canTarget r k = true) (he : ∀ s, effectF r s wide = some s.left) (hj : Jmp L m wide k (targetF r k) M c) : RunAt L m wide k a M (c + 1) := fun n left found out h =>
  run_target hr hc (he _) hj h
theorem run_clause {a : Nat} {p : Int} (hr : L[a]? = some (.label p)) (h0 : 0 ≤ p) (h1 : p < m) : RunAt L m wide k a (fun d => [(p, (d : Int))]) 1 := by
  intro n left found out h
  show turnF L m wide k (runF L m wide k n) ⟨a, left, found⟩ = some out
  unfold turnF
  have ha : ¬ ((a : Int) < 0) := by lia
  simp only [if_neg ha, Int.toNat_natCast, hr, if_pos (And.intro h0 h1)]
  exact h
theorem run_label {a : Nat} {l : Int} {M : Nat → List (Int × Int)} {c : Nat} (hr : L[a]? = some (.label l)) (h0 : ¬ (0 ≤ l ∧ l < m)) (h : RunAt L m wide k ((a + 1 : Nat) : Int) M c) : RunAt L m wide k a M (c + 1) := by
  intro n left found out hh
  show turnF L m wide k (runF L m wide k (n + c)) ⟨a, left, found⟩ = some out
  unfold turnF
  have ha : ¬ ((a : Int) < 0) := by lia
  simp only [if_neg ha, Int.toNat_natCast, hr, if_neg h0]
  exact h n left found out hh
/-- rows stand there -/
noncomputable def At (L : List Ins) (a : Nat) (rows : List Ins) : Prop := ∀ i r, rows[i]? = some r → L[a + i]? = some r
theorem At.head {a : Nat} {r : Ins} {rows : List Ins} (h : At L a (r :: rows)) : L[a]? = some r := h 0 r rfl
theorem At.tail {a : Nat} {r : Ins} {rows : List Ins} (h : At L a (r :: rows)) : At L (a + 1) rows := fun i x e => by
  have := h (i + 1) x (by simpa using e)
  rw [show a + 1 + i = a + (i + 1) by lia]; exact this
theorem At.app {pre rows post : List Ins} : At (pre ++ rows ++ post) pre.length rows := fun i r e => by
  have hi := (List.getElem?_eq_some_iff.mp e).1
  rw [List.append_assoc, List.getElem?_append_right (by lia), show pre.length + i - pre.length = i by lia, List.getElem?_append_left hi]
  exact e
theorem At.left {a : Nat} {r1 r2 : List Ins} (h : At L a (r1 ++ r2)) : At L a r1 := fun i r e => h i r (by
  rw [List.getElem?_append_left (List.getElem?_eq_some_iff.mp e).1]; exact e)
theorem At.right {a : Nat} {r1 r2 : List Ins} (h : At L a (r1 ++ r2)) : At L (a + r1.length) r2 := fun i r e => by
  have := h (r1.length + i) r (by rw [List.getElem?_append_right (by lia), show r1.length + i - r1.length = i by lia]; exact e)
  rw [show a + r1.length + i = a + (r1.length + i) by lia]; exact this
/-- retry .., trust -/
theorem run_tail {M : Int → Nat → List (Int × Int)} {c : Int → Nat} : ∀ (ys : List Int) (z : Int) (a : Nat), At L a (ys.map .retry ++ [.trust z]) → (∀ y ∈ ys, Jmp L m wide k y (M y) (c y)) → Jmp L m wide k z (M z) (c z) →
    ∀ n left (e : Int) found out, afterF (runF L m wide k n) left (found ++ (ys.flatMap (fun y => M y (left.length + 1)) ++ M z left.length)) = some out →
      runF L m wide k (n + ((ys.map fun y => c y + 1).sum + (c z + 1))) ⟨a, left ++ [e], found⟩ = some out
  | [], z, a, hat, _, hz, n, left, e, found, out, h => by
    have hr := hat.head
    have := run_target (L := L) (m := m) (wide := wide) (k := k) (left := left ++ [e]) (found := found) (n := n) (out := out) hr rfl (lf := left) (by simp [effectF]) hz (by simpa using h)
    rw [show n + ((([] : List Int).map fun y => c y + 1).sum + (c z + 1)) = n + c z + 1 by simp; lia]
    exact this
  | y :: ys, z, a, hat, hy, hz, n, left, e, found, out, h => by
    have hr := hat.head
    have ih := run_tail ys z (a + 1) hat.tail (fun y' hy' => hy y' (.tail _ hy')) hz n left ((a : Int) + 1) (found ++ M y (left.length + 1)) out (by
      simp only [List.flatMap_cons, List.append_assoc] at h ⊢; exact h)
    have h2 : afterF (runF L m wide k (n + ((ys.map fun y => c y + 1).sum + (c z + 1)))) (left ++ [(a : Int) + 1]) (found ++ M y (left ++ [(a : Int) + 1]).length) = some out := by
      unfold afterF
      rw [List.getLast?_concat]
      simp only [List.length_append, List.length_cons, List.length_nil, Nat.zero_add]
      simpa using ih
    have := run_target (L := L) (m := m) (wide := wide) (k := k) (left := left ++ [e]) (found := found) (out := out) hr rfl (lf := left ++ [(a : Int) + 1]) (by simp [effectF]) (hy y (.head _)) h2
    rw [show n + (((y :: ys).map fun y => c y + 1).sum + (c z + 1)) = n + ((ys.map fun y => c y + 1).sum + (c z + 1)) + c y + 1 by simp only [List.map_cons, List.sum_cons]; lia]
    exact this
theorem run_chain {M : Int → Nat → List (Int × Int)} {c : Int → Nat} {x z : Int} {ys : List Int} {a : Nat} (hat : At L a (.try_ x wide :: (ys.map .retry ++ [.trust z]))) (hx : Jmp L m wide k x (M x) (c x)) (hy : ∀ y ∈ ys, Jmp L m wide k y (M y) (c y)) (hz : Jmp L m wide k z (M z) (c z)) :
    RunAt L m wide k a (fun d => (x :: ys).flatMap (fun y => M y (d + 1)) ++ M z d) (c x + 1 + ((ys.map fun y => c y + 1).sum + (c z + 1))) := by
  intro n left found out h
  have hr := hat.head
  have ih := run_tail ys z (a + 1) hat.tail hy hz n left ((a : Int) + 1) (found ++ M x (left.length + 1)) out (by
    simp only [List.flatMap_cons, List.append_assoc] at h ⊢; exact h)
  have h2 : afterF (runF L m wide k (n + ((ys.map fun y => c y + 1).sum + (c z + 1)))) (left ++ [(a : Int) + 1]) (found ++ M x (left ++ [(a : Int) + 1]).length) = some out := by
    unfold afterF
    rw [List.getLast?_concat]
    simp only [List.length_append, List.length_cons, List.length_nil, Nat.zero_add]
    simpa using ih
  have := run_target (L := L) (m := m) (wide := wide) (k := k) (left := left) (found := found) (out := out) hr rfl (lf := left ++ [(a : Int) + 1]) (by simp [effectF]) hx h2
  rw [show n + (c x + 1 + ((ys.map fun y => c y + 1).sum + (c z + 1))) = n + ((ys.map fun y => c y + 1).sum + (c z + 1)) + c x + 1 by lia]
  exact this
theorem chainRows_eq {ar x z : Int} {ys : List Int} : chainRows ar (x :: (ys ++ [z])) = .try_ x ar :: (ys.map .retry ++ [.trust z]) := by
  unfold chainRows
  have h1 : ((x :: (ys ++ [z])).drop 1).dropLast = ys := by simp
  have h2 : (x :: (ys ++ [z])).getLastD 0 = z := by
    rw [← List.cons_append, List.getLastD_eq_getLast?, List.getLast?_concat]; rfl
  rw [h1, h2]; rfl
end
end SPl1
section SPl2
noncomputable def marks (d : Nat) : List Int → List (Int × Int)
  | [] => []
  | [v] => [(v, (d : Int))]
  | v :: w :: r => (v, ((d + 1 : Nat) : Int)) :: marks d (w :: r)
theorem marks_concat (d : Nat) (z : Int) : ∀ ys : List Int, marks d (ys ++ [z]) = ys.map (fun y => (y, ((d + 1 : Nat) : Int))) ++ [(z, (d : Int))]
  | [] => rfl
  | [y] => rfl
  | y :: y2 :: ys => by
    have := marks_concat d z (y2 :: ys)
    simp only [List.cons_append, marks, List.map_cons] at this ⊢
    rw [this]
noncomputable def LabOf (ch : List (Int × List Int)) (ps : List Int) (l : Int) : Prop := (ps = [] ∧ l = -1) ∨ (∃ p, ps = [p] ∧ l = p) ∨ (2 ≤ ps.length ∧ (l, ps) ∈ ch)
theorem LabOf.mono {ch ch' : List (Int × List Int)} {ps : List Int} {l : Int} (h : LabOf ch ps l) (k : ∀ q ∈ ch, q ∈ ch') : LabOf ch' ps l := by
  rcases h with h | h | ⟨h1, h2⟩
  · exact .inl h
  · exact .inr (.inl h)
  · exact .inr (.inr ⟨h1, k _ h2⟩)
noncomputable def chainCost (ps : List Int) : Nat := 2 * ps.length + 1
noncomputable def InN (n : Int) (ps : List Int) : Prop := ∀ p ∈ ps, 0 ≤ p ∧ p < n
structure WF (n : Int) (s : BS) (R : List Int) : Prop where
  nodup : (labs s.rows ++ s.chains.map (·.1) ++ R).Nodup
  rng : ∀ l ∈ labs s.rows ++ s.chains.map (·.1) ++ R, n ≤ l ∧ l < s.next
  nn : n ≤ s.next
  known : ∀ q ∈ s.known, (q.2, q.1) ∈ s.chains
  ps : ∀ q ∈ s.chains, 2 ≤ q.2.length ∧ InN n q.2
theorem chainF_grow (s : BS) (ps : List Int) : ∀ q ∈ s.chains, q ∈ (chainF s ps).2.chains := by
  unfold chainF
  intro q hq
  split
  · exact hq
  · exact hq
  · split
    · exact hq
    · exact List.mem_append_left _ hq
theorem chainF_wf {n : Int} {s : BS} {R ps : List Int} (h : WF n s R) (hp : InN n ps) : WF n (chainF s ps).2 R ∧ LabOf (chainF s ps).2.chains ps (chainF s ps).1 := by
  unfold chainF
  split
  · exact ⟨h, .inl ⟨rfl, rfl⟩⟩
  · exact ⟨h, .inr (.inl ⟨_, rfl, rfl⟩)⟩
  · rename_i h1 h2
    have hl : 2 ≤ ps.length := by
      match ps, h1, h2 with
      | [], h1, _ => exact absurd rfl h1
      | [p], _, h2 => exact absurd rfl (h2 p)
      | _ :: _ :: _, _, _ => simp
    split
    · rename_i q hq
      have hm := List.mem_of_find?_eq_some hq
      have he := List.find?_some hq
      simp only [decide_eq_true_eq] at he
      exact ⟨h, .inr (.inr ⟨hl, he ▸ h.known q hm⟩)⟩
    · refine ⟨⟨?_, ?_, ?_, ?_, ?_⟩, .inr (.inr ⟨hl, by simp⟩)⟩
      · have hnew : s.next ∉ labs s.rows ++ s.chains.map (·.1) ++ R := fun hm => by have := (h.rng _ hm).2; lia
        have hp : (labs s.rows ++ (s.chains ++ [(s.next, ps)]).map (·.1) ++ R).Perm (s.next :: (labs s.rows ++ s.chains.map (·.1) ++ R)) := by
          simp only [List.map_append, List.map_cons, List.map_nil]
          refine List.Perm.trans ?_ (List.perm_middle (a := s.next) (l₁ := labs s.rows ++ s.chains.map (·.1)) (l₂ := R))
          simp
        exact hp.nodup_iff.mpr (List.nodup_cons.mpr ⟨hnew, h.nodup⟩)
      · intro l hl
        simp only [List.map_append, List.map_cons, List.map_nil, List.mem_append, List.mem_singleton] at hl
        have hr := h.rng l
        simp only [List.mem_append] at hr
        have nn := h.nn
        rcases hl with (hl | hl | hl) | hl
        · have := hr (.inl (.inl hl)); simp only; lia
        · have := hr (.inl (.inr hl)); simp only; lia
        · subst hl; simp only; lia
        · have := hr (.inr hl); simp only; lia
      · have := h.nn; simp only; lia
      · intro q hq
        rcases List.mem_append.mp hq with hq | hq
        · exact List.mem_append_left _ (h.known q hq)
        · rw [List.mem_singleton.mp hq]; exact List.mem_append_right _ (by simp)
      · intro q hq
        rcases List.mem_append.mp hq with hq | hq
        · exact h.ps q hq
        · rw [List.mem_singleton.mp hq]; exact ⟨hl, hp⟩
theorem InN.filter {n : Int} {ps : List Int} (h : InN n ps) (f : Int → Bool) : InN n (ps.filter f) := fun p hp => h p (List.mem_filter.mp hp).1
/-- what a table knows -/
structure Tab (codes : List Code) (ps : List Int) (kd : String) (qs : List Int) (a : List (Key × Int) × List Key × BS) : Prop where
  seen : ∀ κ, κ ∈ a.2.1 ↔ (κ.kind = kd ∧ ∃ p ∈ qs, keyAt codes p = κ)
  none_ : ∀ κ, κ ∉ a.2.1 → a.1.find? (fun q => q.1 = κ) = none
  some_ : ∀ κ, κ ∈ a.2.1 → ∃ l, a.1.find? (fun q => q.1 = κ) = some (κ, l) ∧ LabOf a.2.2.chains (matchPlaces codes ps κ) l
  kinds : ∀ q ∈ a.1, q.1.kind = kd
  len : a.1.length = a.2.1.length
theorem table_inv {codes : List Code} {ps : List Int} {kd : String} {n : Int} {R : List Int} (hp : InN n ps) : ∀ (qs done : List Int) (a : List (Key × Int) × List Key × BS), WF n a.2.2 R → Tab codes ps kd done a →
    WF n (qs.foldl (tableStep codes ps kd) a).2.2 R ∧ Tab codes ps kd (done ++ qs) (qs.foldl (tableStep codes ps kd) a) ∧ ∀ q ∈ a.2.2.chains, q ∈ (qs.foldl (tableStep codes ps kd) a).2.2.chains
  | [], done, a, hw, ht => by
    rw [List.append_nil]
    exact ⟨hw, ht, fun _ h => h⟩
  | p :: qs, done, a, hw, ht => by
    have step : WF n (tableStep codes ps kd a p).2.2 R ∧ Tab codes ps kd (done ++ [p]) (tableStep codes ps kd a p) ∧ ∀ q ∈ a.2.2.chains, q ∈ (tableStep codes ps kd a p).2.2.chains := by
      unfold tableStep
      split
      · rename_i hc
        have hcf := chainF_wf (ps := matchPlaces codes ps (keyAt codes p)) hw (hp.filter _)
        have hg := chainF_grow a.2.2 (matchPlaces codes ps (keyAt codes p))
        refine ⟨hcf.1, ⟨fun κ => ?_, fun κ hk => ?_, fun κ hk => ?_, fun q hq => ?_, by simp [ht.len]⟩, hg⟩
        · simp only [List.mem_append, List.mem_singleton, ht.seen]
          constructor
          · rintro (⟨h1, q, hq, h2⟩ | rfl)
            · exact ⟨h1, q, .inl hq, h2⟩
            · exact ⟨hc.1, p, .inr rfl, rfl⟩
          · rintro ⟨h1, q, hq | rfl, h2⟩
            · exact .inl ⟨h1, q, hq, h2⟩
            · exact .inr h2.symm
        · simp only [List.mem_append, List.mem_singleton, not_or] at hk
          rw [List.find?_append, ht.none_ κ hk.1]
          have : ¬ keyAt codes p = κ := fun z => hk.2 z.symm
          simp [this]
        · by_cases hks : κ ∈ a.2.1
          · obtain ⟨l, h1, h2⟩ := ht.some_ κ hks
            refine ⟨l, ?_, h2.mono hg⟩
            rw [List.find?_append, h1]; rfl
          · have : κ = keyAt codes p := by
              rcases List.mem_append.mp hk with h | h
              · exact absurd h hks
              · exact List.mem_singleton.mp h
            subst this
            refine ⟨_, ?_, hcf.2⟩
            rw [List.find?_append, ht.none_ _ hks]
            simp
        · rcases List.mem_append.mp hq with hq | hq
          · exact ht.kinds q hq
          · rw [List.mem_singleton.mp hq]; exact hc.1
      · rename_i hc
        refine ⟨hw, ⟨fun κ => ?_, ht.none_, ht.some_, ht.kinds, ht.len⟩, fun _ h => h⟩
        rw [ht.seen]
        constructor
        · rintro ⟨h1, q, hq, h2⟩
          exact ⟨h1, q, List.mem_append_left _ hq, h2⟩
        · rintro ⟨h1, q, hq, h2⟩
          rcases List.mem_append.mp hq with hq | hq
          · exact ⟨h1, q, hq, h2⟩
          · rw [List.mem_singleton.mp hq] at h2
            have : κ ∈ a.2.1 := Classical.byContradiction fun z => hc ⟨by rw [h2]; exact h1, by rw [h2]; exact z⟩
            exact (ht.seen κ).mp this
    have ih := table_inv hp qs (done ++ [p]) _ step.1 step.2.1
    rw [List.foldl_cons]
    refine ⟨ih.1, ?_, fun q hq => ih.2.2 q (step.2.2 q hq)⟩
    simpa using ih.2.1
theorem tableF_inv {codes : List Code} {ps : List Int} {kd : String} {n : Int} {R : List Int} {s : BS} (hw : WF n s R) (hp : InN n ps) :
    WF n (tableF codes ps kd s).2.2 R ∧ Tab codes ps kd ps (tableF codes ps kd s) ∧ ∀ q ∈ s.chains, q ∈ (tableF codes ps kd s).2.2.chains := by
  have := table_inv (codes := codes) (kd := kd) hp ps [] ([], [], s) hw ⟨by simp, by simp, by simp, by simp, rfl⟩
  rw [List.nil_append] at this
  exact this
theorem matchPlaces_var {codes : List Code} {ps : List Int} {κ : Key} (h1 : κ ≠ .var) (h2 : ∀ p ∈ ps, keyAt codes p ≠ κ) : matchPlaces codes ps κ = varPlaces codes ps := by
  unfold matchPlaces varPlaces
  refine List.filter_congr fun p hp => ?_
  have := h2 p hp
  by_cases e : keyAt codes p = .var <;> simp [matchK, e, h1, this]
theorem matchPlaces_all {codes : List Code} {ps : List Int} : matchPlaces codes ps .var = ps := by
  unfold matchPlaces
  refine List.filter_eq_self.mpr fun p hp => ?_
  simp [matchK]
/-- a table's target -/
theorem table_target {codes : List Code} {ps : List Int} {kd : String} {a : List (Key × Int) × List Key × BS} {κ : Key} {d : Int} {ch : List (Int × List Int)} (ht : Tab codes ps kd ps a) (hk : κ.kind = kd) (hkv : κ ≠ .var)
    (hg : ∀ q ∈ a.2.2.chains, q ∈ ch) (hd : LabOf ch (varPlaces codes ps) d) : LabOf ch (matchPlaces codes ps κ) (((a.1.find? fun q => q.1 = κ).map (·.2)).getD d) := by
  by_cases hs : κ ∈ a.2.1
  · obtain ⟨l, h1, h2⟩ := ht.some_ κ hs
    rw [h1]
    exact h2.mono hg
  · rw [ht.none_ κ hs]
    have : ∀ p ∈ ps, keyAt codes p ≠ κ := fun p hp e => hs ((ht.seen κ).mpr ⟨hk, p, hp, e⟩)
    rw [matchPlaces_var hkv this]
    exact hd
end SPl2
section SPl3
theorem labs_append (a b : List Ins) : labs (a ++ b) = labs a ++ labs b := List.filterMap_append
theorem labs_flatMap {α : Type} {g : α → List Ins} {f : α → Int} (h : ∀ q, labs (g q) = [f q]) : ∀ qs : List α, labs (qs.flatMap g) = qs.map f
  | [] => rfl
  | q :: qs => by rw [List.flatMap_cons, labs_append, h, labs_flatMap h qs]; rfl
theorem labs_chainRows (ar : Int) (ps : List Int) : labs (chainRows ar ps) = [] := by
  have h1 : ∀ l : List Int, labs (l.map Ins.retry) = [] := by
    intro l
    induction l with
    | nil => rfl
    | cons x l ih => exact ih
  unfold chainRows
  rw [labs_append]
  show labs (((ps.drop 1).dropLast).map Ins.retry) ++ [] = []
  rw [h1]; rfl
theorem labs_flatMap' {α : Type} {g : α → List Ins} {f : α → Int} : ∀ qs : List α, (∀ q ∈ qs, labs (g q) = [f q]) → labs (qs.flatMap g) = qs.map f
  | [], _ => rfl
  | q :: qs, h => by rw [List.flatMap_cons, labs_append, h q (.head _), labs_flatMap' qs fun q hq => h q (.tail _ hq)]; rfl
theorem labs_finish {codes : List Code} {s : BS} (hins : ∀ k ∈ codes, labs k.ins = []) : labs (finishRows codes s) = labs s.rows ++ s.chains.map (·.1) ++ upto 0 codes.length := by
  unfold finishRows
  rw [labs_append, labs_append, labs_flatMap (f := fun q => q.1)]
  · rw [labs_flatMap' (f := fun q => (q.2 : Int))]
    · congr 1
      rw [show (fun q : Code × Nat => (q.2 : Int)) = (fun i : Nat => (i : Int)) ∘ Prod.snd from rfl, ← List.map_map, List.zipIdx_map_snd]
      simp only [upto, Int.sub_zero, Int.toNat_natCast, List.range_eq_range', Int.zero_add]
    · intro q hq
      have := hins q.1 (List.fst_mem_of_mem_zipIdx hq)
      show labs (.label q.2 :: q.1.ins) = _
      unfold labs at this ⊢
      rw [List.filterMap_cons]
      simp [lab, this]
  · intro q
    show labs (.label q.1 :: chainRows s.ar q.2) = _
    have := labs_chainRows s.ar q.2
    unfold labs at this ⊢
    rw [List.filterMap_cons]
    simp [lab, this]
theorem finish_nodup {codes : List Code} {s : BS} (hins : ∀ k ∈ codes, labs k.ins = []) (h : WF codes.length s []) : (labs (finishRows codes s)).Nodup := by
  rw [labs_finish hins, List.nodup_append]
  have h1 := h.nodup
  rw [List.append_nil] at h1
  refine ⟨h1, ?_, fun a ha b hb e => ?_⟩
  · unfold upto
    refine List.Pairwise.map _ (fun a b hab => ?_) List.nodup_range
    intro z; exact hab (by lia)
  · have := (h.rng a (by rw [List.append_nil]; exact ha)).1
    have hb' := inR_upto (codes := codes) b hb
    lia
structure Laid (L : List Ins) (m wide : Int) (k : Key) (ch : List (Int × List Int)) : Prop where
  clause : ∀ p, 0 ≤ p → p < m → Jmp L m wide k p (fun d => [(p, (d : Int))]) 1
  chain : ∀ q ∈ ch, Jmp L m wide k q.1 (fun d => marks d q.2) (chainCost q.2)
section
variable {L : List Ins} {m wide : Int} {k : Key}
theorem Laid.lab {ch : List (Int × List Int)} (h : Laid L m wide k ch) {ps : List Int} {l : Int} (hl : LabOf ch ps l) (hp : InN m ps) : Jmp L m wide k l (fun d => marks d ps) (chainCost ps) := by
  rcases hl with ⟨rfl, rfl⟩ | ⟨p, rfl, rfl⟩ | ⟨_, h2⟩
  · exact .inr ⟨by lia, fun _ => rfl⟩
  · obtain ⟨h1, h2⟩ := hp l (.head _)
    exact (h.clause l h1 h2).le (by simp [chainCost])
  · exact h.chain _ h2
theorem jmp_at {a : Nat} {l : Int} {M : Nat → List (Int × Int)} {c : Nat} (hnd : (labs L).Nodup) (h0 : 0 ≤ l) (hr : L[a]? = some (.label l)) (h : RunAt L m wide k a M c) : Jmp L m wide k l M c :=
  .inl ⟨h0, a, lookupW_of (by rw [labelsOf_fst]; exact hnd) (mem_labelsOf hr), h⟩
/-- clauses and chains -/
theorem clause_jmp {p : Int} (hnd : (labs L).Nodup) (h0 : 0 ≤ p) (h1 : p < m) (hm : Ins.label p ∈ L) : Jmp L m wide k p (fun d => [(p, (d : Int))]) 1 := by
  obtain ⟨a, ha⟩ := List.mem_iff_getElem?.mp hm
  exact jmp_at hnd h0 ha (run_clause ha h0 h1)
theorem split_ends {ps : List Int} (h : 2 ≤ ps.length) : ∃ x ys z, ps = x :: (ys ++ [z]) := by
  match ps, h with
  | x :: y :: r, _ =>
    refine ⟨x, (y :: r).dropLast, (y :: r).getLast (by simp), ?_⟩
    rw [List.dropLast_concat_getLast]
theorem chain_run {a : Nat} {ps : List Int} (h2 : 2 ≤ ps.length) (hat : At L a (chainRows wide ps)) (hp : ∀ p ∈ ps, Jmp L m wide k p (fun d => [(p, (d : Int))]) 1) : RunAt L m wide k a (fun d => marks d ps) (2 * ps.length) := by
  obtain ⟨x, ys, z, rfl⟩ := split_ends h2
  rw [chainRows_eq] at hat
  have := run_chain (L := L) (m := m) (k := k) (M := fun p d => [(p, (d : Int))]) (c := fun _ => 1) hat (hp x (.head _)) (fun y hy => hp y (by simp [hy])) (hp z (by simp))
  have e : (fun d : Nat => (x :: ys).flatMap (fun y => [(y, ((d + 1 : Nat) : Int))]) ++ [(z, (d : Int))]) = fun d => marks d (x :: (ys ++ [z])) := by
    funext d
    rw [← List.cons_append, marks_concat]
    congr 1
    generalize x :: ys = l
    induction l with
    | nil => rfl
    | cons a l ih => rw [List.flatMap_cons, List.map_cons, ih]; rfl
  have e2 : (1 + 1 + ((ys.map fun _ => 1 + 1).sum + (1 + 1))) = 2 * (x :: (ys ++ [z])).length := by
    have : ∀ l : List Int, (l.map fun _ => 1 + 1).sum = 2 * l.length := by
      intro l
      induction l with
      | nil => rfl
      | cons a l ih => rw [List.map_cons, List.sum_cons, ih, List.length_cons]; lia
    rw [this]; simp; lia
  rw [← e2]
  rw [← e]
  exact this
end
theorem finish_laid {codes : List Code} {s : BS} {k : Key} {wide : Int} (hins : ∀ k ∈ codes, labs k.ins = []) (h : WF codes.length s []) (har : s.ar = wide) : Laid (finishRows codes s) codes.length wide k s.chains := by
  subst har
  have hnd := finish_nodup hins h
  have hcl : ∀ p : Int, 0 ≤ p → p < codes.length → Jmp (finishRows codes s) codes.length s.ar k p (fun d => [(p, (d : Int))]) 1 := by
    intro p h0 h1
    refine clause_jmp hnd h0 h1 ?_
    unfold finishRows
    refine List.mem_append_right _ (List.mem_flatMap.mpr ⟨(codes[p.toNat]'(by lia), p.toNat), ?_, ?_⟩)
    · rw [List.mem_iff_getElem?]
      exact ⟨p.toNat, by simp [List.getElem?_zipIdx, show p.toNat < codes.length by lia]⟩
    · rw [show (p.toNat : Int) = p by lia]; exact .head _
  refine ⟨hcl, fun q hq => ?_⟩
  obtain ⟨hl, hp⟩ := h.ps q hq
  obtain ⟨c1, c2, hc⟩ := List.append_of_mem hq
  have hL : finishRows codes s = (s.rows ++ c1.flatMap (fun q => .label q.1 :: chainRows s.ar q.2)) ++ (Ins.label q.1 :: chainRows s.ar q.2) ++ (c2.flatMap (fun q => .label q.1 :: chainRows s.ar q.2) ++ codes.zipIdx.flatMap fun q => .label q.2 :: q.1.ins) := by
    unfold finishRows
    rw [hc]
    simp only [List.flatMap_append, List.flatMap_cons, List.append_assoc, List.cons_append]
  have hat : At (finishRows codes s) (s.rows ++ c1.flatMap (fun q => .label q.1 :: chainRows s.ar q.2)).length (Ins.label q.1 :: chainRows s.ar q.2) := by
    rw [hL]; exact At.app
  have hr := h.rng q.1 (by rw [List.append_nil]; exact List.mem_append_right _ (List.mem_map.mpr ⟨q, hq, rfl⟩))
  have hrun := chain_run (m := codes.length) (k := k) hl hat.tail (fun p hpm => hcl p (hp p hpm).1 (hp p hpm).2)
  exact jmp_at hnd (by lia) hat.head ((run_label hat.head (by lia) hrun).le (by simp [chainCost]))
end SPl3
section SPl4
theorem bump_wf {n : Int} {s : BS} {R : List Int} {c : Bool} {d : Int} (h : WF n s R) : WF n (bump c d s).2 ((if c then [(bump c d s).1] else []) ++ R) ∧ (bump c d s).2.chains = s.chains ∧ (c = true → n ≤ (bump c d s).1) := by
  unfold bump
  cases c with
  | false => exact ⟨h, rfl, fun z => by cases z⟩
  | true =>
    simp only [if_true]
    refine ⟨⟨?_, ?_, ?_, h.known, h.ps⟩, trivial, fun _ => h.nn⟩
    · have hnew : s.next ∉ labs s.rows ++ s.chains.map (·.1) ++ R := fun hm => by have := (h.rng _ hm).2; lia
      have hp : (labs s.rows ++ s.chains.map (·.1) ++ ([s.next] ++ R)).Perm (s.next :: (labs s.rows ++ s.chains.map (·.1) ++ R)) := List.perm_middle
      exact hp.nodup_iff.mpr (List.nodup_cons.mpr ⟨hnew, h.nodup⟩)
    · intro l hl
      have hr := h.rng l
      simp only [List.mem_append, List.mem_singleton] at hl hr
      have nn := h.nn
      rcases hl with (hl | hl) | hl | hl
      · have := hr (.inl (.inl hl)); simp only; lia
      · have := hr (.inl (.inr hl)); simp only; lia
      · subst hl; simp only; lia
      · have := hr (.inr hl); simp only; lia
    · have := h.nn; simp only; lia
theorem rows_wf {n : Int} {s : BS} {R : List Int} {r : List Ins} (h : WF n s (labs r ++ R)) : WF n (addRows s r) R := by
  have hp : (labs (s.rows ++ r) ++ s.chains.map (·.1) ++ R).Perm (labs s.rows ++ s.chains.map (·.1) ++ (labs r ++ R)) := by
    rw [labs_append]
    have h1 : (labs s.rows ++ labs r ++ s.chains.map (·.1)).Perm (labs s.rows ++ s.chains.map (·.1) ++ labs r) := by
      rw [List.append_assoc, List.append_assoc]
      exact List.Perm.append_left _ List.perm_append_comm
    rw [← List.append_assoc (labs s.rows ++ s.chains.map (·.1))]
    exact h1.append_right R
  exact ⟨hp.nodup_iff.mpr h.nodup, fun l hl => h.rng l (hp.mem_iff.mp hl), h.nn, h.known, h.ps⟩
/-- a switch: its state, and its run -/
theorem switch_all {codes : List Code} {ps : List Int} {s : BS} {n : Int} {R : List Int} (h : WF n s R) (hp : InN n ps) (hn : n = codes.length) :
    WF n (addRows (switchF codes ps s).2 (switchF codes ps s).1) R ∧ (∀ q ∈ s.chains, q ∈ (switchF codes ps s).2.chains) ∧
    ∀ (L : List Ins) (wide : Int) (k : Key) (ch : List (Int × List Int)) (a : Nat), (labs L).Nodup → Laid L n wide k ch → (∀ q ∈ (switchF codes ps s).2.chains, q ∈ ch) → At L a (switchF codes ps s).1 →
      RunAt L n wide k a (fun d => marks d (matchPlaces codes ps k)) (2 * ps.length + 4) := by
  obtain ⟨d, hd⟩ : ∃ d, d = chainF s (varPlaces codes ps) := ⟨_, rfl⟩
  obtain ⟨c, hc⟩ : ∃ c, c = tableF codes ps "const" d.2 := ⟨_, rfl⟩
  obtain ⟨t, ht⟩ : ∃ t, t = tableF codes ps "struct" c.2.2 := ⟨_, rfl⟩
  obtain ⟨cl, hcl⟩ : ∃ cl, cl = bump (decide (0 < c.1.length)) d.1 t.2.2 := ⟨_, rfl⟩
  obtain ⟨sl, hsl⟩ : ∃ sl, sl = bump (decide (0 < t.1.length)) d.1 cl.2 := ⟨_, rfl⟩
  obtain ⟨l, hl⟩ : ∃ l, l = chainF sl.2 (matchPlaces codes ps .list) := ⟨_, rfl⟩
  obtain ⟨a', ha'⟩ : ∃ a, a = chainF l.2 ps := ⟨_, rfl⟩
  have e : switchF codes ps s = (.sot a'.1 cl.1 l.1 sl.1 :: (if 0 < c.1.length then [.label cl.1, .soc c.1 d.1] else []) ++ (if 0 < t.1.length then [.label sl.1, .sos t.1 d.1] else []), a'.2) := by
    rw [ha', hl, hsl, hcl, ht, hc, hd]; rfl
  have w1 := chainF_wf (ps := varPlaces codes ps) h (hp.filter _)
  have g1 := chainF_grow s (varPlaces codes ps)
  rw [← hd] at w1 g1
  have w2 := tableF_inv (codes := codes) (kd := "const") w1.1 hp
  rw [← hc] at w2
  have w3 := tableF_inv (codes := codes) (kd := "struct") w2.1 hp
  rw [← ht] at w3
  have w4 := bump_wf (c := decide (0 < c.1.length)) (d := d.1) w3.1
  rw [← hcl] at w4
  have w5 := bump_wf (c := decide (0 < t.1.length)) (d := d.1) w4.1
  rw [← hsl] at w5
  have w6 := chainF_wf (ps := matchPlaces codes ps .list) w5.1 (hp.filter _)
  have g6 := chainF_grow sl.2 (matchPlaces codes ps .list)
  rw [← hl] at w6 g6
  have w7 := chainF_wf (ps := ps) w6.1 hp
  have g7 := chainF_grow l.2 ps
  rw [← ha'] at w7 g7
  rw [e]
  have G7 : ∀ q ∈ a'.2.chains, q ∈ a'.2.chains := fun _ h => h
  have G6 : ∀ q ∈ l.2.chains, q ∈ a'.2.chains := g7
  have G5 : ∀ q ∈ sl.2.chains, q ∈ a'.2.chains := fun q hq => G6 q (g6 q hq)
  have G3 : ∀ q ∈ t.2.2.chains, q ∈ a'.2.chains := fun q hq => G5 q (by rw [w5.2.1, w4.2.1]; exact hq)
  have G2 : ∀ q ∈ c.2.2.chains, q ∈ a'.2.chains := fun q hq => G3 q (w3.2.2 q hq)
  have G1 : ∀ q ∈ d.2.chains, q ∈ a'.2.chains := fun q hq => G2 q (w2.2.2 q hq)
  refine ⟨?_, fun q hq => G1 q (g1 q hq), ?_⟩
  · refine rows_wf ?_
    have e2 : labs (Ins.sot a'.1 cl.1 l.1 sl.1 :: (if 0 < c.1.length then [.label cl.1, .soc c.1 d.1] else []) ++ (if 0 < t.1.length then [.label sl.1, .sos t.1 d.1] else [])) =
        (if 0 < c.1.length then [cl.1] else []) ++ (if 0 < t.1.length then [sl.1] else []) := by
      rw [labs_append]
      split <;> split <;> rfl
    rw [e2]
    have hw := w7.1
    simp only [decide_eq_true_eq] at hw
    have hperm : ((if 0 < c.1.length then [cl.1] else []) ++ (if 0 < t.1.length then [sl.1] else []) ++ R).Perm ((if 0 < t.1.length then [sl.1] else []) ++ ((if 0 < c.1.length then [cl.1] else []) ++ R)) := by
      rw [← List.append_assoc]
      exact List.perm_append_comm.append_right R
    exact ⟨((hperm.append_left _).nodup_iff).mpr hw.nodup, fun x hx => hw.rng x ((hperm.append_left _).mem_iff.mp hx), hw.nn, hw.known, hw.ps⟩
  · intro L wide k ch a hnd hlaid hg hat
    have hat' : At L a (Ins.sot a'.1 cl.1 l.1 sl.1 :: ((if 0 < c.1.length then [.label cl.1, .soc c.1 d.1] else []) ++ (if 0 < t.1.length then [.label sl.1, .sos t.1 d.1] else []))) := hat
    have hdv : LabOf ch (varPlaces codes ps) d.1 := w1.2.mono fun q hq => hg q (G1 q hq)
    have hfl : ∀ (κ : Key), (matchPlaces codes ps κ).length ≤ ps.length := fun κ => List.length_filter_le _ _
    have hcost : ∀ κ, chainCost (matchPlaces codes ps κ) ≤ 2 * ps.length + 1 := fun κ => by have := hfl κ; unfold chainCost; lia
    have fin : Jmp L n wide k (targetF (.sot a'.1 cl.1 l.1 sl.1) k) (fun d => marks d (matchPlaces codes ps k)) (2 * ps.length + 3) → RunAt L n wide k a (fun d => marks d (matchPlaces codes ps k)) (2 * ps.length + 4) := fun hj =>
      run_sw hat'.head rfl (fun _ => rfl) hj
    apply fin
    cases k with
    | var =>
      rw [matchPlaces_all]
      exact (hlaid.lab (w7.2.mono hg) hp).le (by unfold chainCost; lia)
    | list =>
      exact (hlaid.lab (w6.2.mono fun q hq => hg q (G6 q hq)) (hp.filter _)).le (Nat.le_trans (hcost _) (by lia))
    | const t1 v1 =>
      show Jmp L n wide _ cl.1 _ _
      by_cases hcz : 0 < c.1.length
      · rw [if_pos hcz] at hat'
        have hlc := hat'.tail.head
        have hsoc := hat'.tail.tail.head
        have hn0 := w4.2.2 (decide_eq_true hcz)
        have hl2 := table_target (κ := .const t1 v1) w2.2.1 rfl (by simp) (fun q hq => hg q (G2 q hq)) hdv
        have hct : canTarget (.soc c.1 d.1) (.const t1 v1) = true := by
          simp only [canTarget, Key.kind, Bool.and_eq_true, beq_iff_eq, List.all_eq_true, true_and]
          exact fun q hq => w2.2.1.kinds q hq
        have hrun := run_sw (L := L) (m := n) (wide := wide) (k := .const t1 v1) hsoc hct (fun _ => rfl) (hlaid.lab hl2 (hp.filter _))
        exact (jmp_at hnd (by lia) hlc (run_label hlc (by lia) hrun)).le (by have := hcost (.const t1 v1); lia)
      · have e3 : cl.1 = d.1 := by rw [hcl, decide_eq_false hcz]; rfl
        rw [e3]
        have : ∀ p ∈ ps, keyAt codes p ≠ .const t1 v1 := fun p hpm z => by
          have := (w2.2.1.seen (.const t1 v1)).mpr ⟨rfl, p, hpm, z⟩
          have hlen := w2.2.1.len
          have := List.length_pos_of_mem this
          lia
        rw [matchPlaces_var (by simp) this]
        exact (hlaid.lab hdv (hp.filter _)).le (by have := List.length_filter_le (fun p => keyAt codes p = .var) ps; unfold chainCost varPlaces; lia)
    | struct f1 =>
      show Jmp L n wide _ sl.1 _ _
      by_cases htz : 0 < t.1.length
      · rw [if_pos htz] at hat'
        have hat2 := hat'.tail.right
        have hlc := hat2.head
        have hsos := hat2.tail.head
        have hn0 := w5.2.2 (decide_eq_true htz)
        have hl2 := table_target (κ := .struct f1) w3.2.1 rfl (by simp) (fun q hq => hg q (G3 q hq)) hdv
        have hct : canTarget (.sos t.1 d.1) (.struct f1) = true := by
          simp only [canTarget, Key.kind, Bool.and_eq_true, beq_iff_eq, List.all_eq_true, true_and]
          exact fun q hq => w3.2.1.kinds q hq
        have hrun := run_sw (L := L) (m := n) (wide := wide) (k := .struct f1) hsos hct (fun _ => rfl) (hlaid.lab hl2 (hp.filter _))
        exact (jmp_at hnd (by lia) hlc (run_label hlc (by lia) hrun)).le (by have := hcost (.struct f1); lia)
      · have e3 : sl.1 = d.1 := by rw [hsl, decide_eq_false htz]; rfl
        rw [e3]
        have : ∀ p ∈ ps, keyAt codes p ≠ .struct f1 := fun p hpm z => by
          have := (w3.2.1.seen (.struct f1)).mpr ⟨rfl, p, hpm, z⟩
          have hlen := w3.2.1.len
          have := List.length_pos_of_mem this
          lia
        rw [matchPlaces_var (by simp) this]
        exact (hlaid.lab hdv (hp.filter _)).le (by have := List.length_filter_le (fun p => keyAt codes p = .var) ps; unfold chainCost varPlaces; lia)
end SPl4
section SPl5
theorem run200 {L : List Ins} {m wide : Int} {k : Key} {M : Nat → List (Int × Int)} {c : Nat} (h : RunAt L m wide k ((0 : Nat) : Int) M c) (hc : c ≤ 200) : runF L m wide k 200 ⟨0, [], []⟩ = some (M 0) := by
  have := h (200 - c) [] [] (M 0) rfl
  rw [show 200 - c + c = 200 by lia] at this
  exact this
theorem upto_inN {codes : List Code} : InN codes.length (upto 0 codes.length) := inR_upto
theorem init_wf (ar : Int) (codes : List Code) : WF codes.length (initS ar codes) [] := ⟨by simp [initS, labs], by simp [initS, labs], by simp [initS], by simp [initS], by simp [initS]⟩
structure BlockOk (B : List Ins) (codes : List Code) : Prop where
  nodup : (labs B).Nodup
  clause : ∀ i (h : i < codes.length), ∃ j, At B j (.label i :: codes[i].ins)
theorem finish_ok {codes : List Code} {s : BS} (hins : ∀ k ∈ codes, labs k.ins = []) (h : WF codes.length s []) : BlockOk (finishRows codes s) codes := by
  refine ⟨finish_nodup hins h, fun i hi => ?_⟩
  have hq : (codes[i], i) ∈ codes.zipIdx := by
    rw [List.mem_iff_getElem?]
    exact ⟨i, by simp [hi]⟩
  obtain ⟨c1, c2, hc⟩ := List.append_of_mem hq
  refine ⟨(s.rows ++ (s.chains.flatMap fun q => .label q.1 :: chainRows s.ar q.2) ++ c1.flatMap fun q => .label q.2 :: q.1.ins).length, ?_⟩
  have : finishRows codes s = (s.rows ++ (s.chains.flatMap fun q => .label q.1 :: chainRows s.ar q.2) ++ c1.flatMap fun q => .label q.2 :: q.1.ins) ++ (.label i :: codes[i].ins) ++ c2.flatMap fun q => .label q.2 :: q.1.ins := by
    unfold finishRows
    rw [hc]
    simp only [List.flatMap_append, List.flatMap_cons, List.append_assoc, List.cons_append]
  rw [this]; exact At.app
theorem finish_at {codes : List Code} {s : BS} : At (finishRows codes s) 0 s.rows := by
  have : finishRows codes s = [] ++ s.rows ++ ((s.chains.flatMap fun q => .label q.1 :: chainRows s.ar q.2) ++ codes.zipIdx.flatMap fun q => .label q.2 :: q.1.ins) := by
    unfold finishRows; simp
  rw [this]; exact At.app
theorem chain_block_ok {codes : List Code} {ar : Int} (h2 : 2 ≤ codes.length) (h8 : codes.length ≤ 8) (hins : ∀ k ∈ codes, labs k.ins = []) :
    BlockOk (chainBlockF ar codes) codes ∧ ∀ k, runF (chainBlockF ar codes) codes.length ar k 200 ⟨0, [], []⟩ = some (marks 0 (upto 0 codes.length)) := by
  have e : chainBlockF ar codes = finishRows codes { initS ar codes with rows := chainRows ar (upto 0 codes.length) } := by rw [chainBlockF, if_neg (by lia)]
  have w : WF codes.length { initS ar codes with rows := chainRows ar (upto 0 codes.length) } [] := ⟨by simp [initS, labs_chainRows], by simp [initS, labs_chainRows], by simp [initS], by simp [initS], by simp [initS]⟩
  rw [e]
  refine ⟨finish_ok hins w, fun k => ?_⟩
  have hl := finish_laid (k := k) (wide := ar) hins w rfl
  have hrun := chain_run (L := finishRows codes { initS ar codes with rows := chainRows ar (upto 0 codes.length) }) (m := codes.length) (wide := ar) (k := k) (ps := upto 0 codes.length) (by rw [upto_length]; lia) finish_at fun p hp => hl.clause p (upto_inN p hp).1 (upto_inN p hp).2
  exact run200 hrun (by rw [upto_length]; lia)
theorem matchPlaces_allVar {codes : List Code} (h : allVar codes = true) (k : Key) : matchPlaces codes (upto 0 codes.length) k = upto 0 codes.length := by
  unfold matchPlaces
  refine List.filter_eq_self.mpr fun p hp => ?_
  have hr := upto_inN p hp
  have : keyAt codes p = .var := by
    unfold allVar at h
    rw [List.all_eq_true] at h
    have hlt : p.toNat < codes.length := by lia
    have := h codes[p.toNat] (List.getElem_mem _)
    simp only [decide_eq_true_eq] at this
    simp [keyAt, hlt, this]
  simp [matchK, this]
theorem index_block_ok {codes : List Code} {ar : Int} (h2 : 2 ≤ codes.length) (h8 : codes.length ≤ 8) (har : ar ≠ 0) (hins : ∀ k ∈ codes, labs k.ins = []) :
    BlockOk (indexBlockF ar codes) codes ∧ ∀ k, runF (indexBlockF ar codes) codes.length ar k 200 ⟨0, [], []⟩ = some (marks 0 (matchPlaces codes (upto 0 codes.length) k)) := by
  by_cases hv : allVar codes = true
  · have e : indexBlockF ar codes = chainBlockF ar codes := by rw [indexBlockF, if_neg (by lia), if_pos (.inr hv)]
    rw [e]
    have h := chain_block_ok (ar := ar) h2 h8 hins
    exact ⟨h.1, fun k => by rw [matchPlaces_allVar hv]; exact h.2 k⟩
  · have e : indexBlockF ar codes = finishRows codes (addRows (switchF codes (upto 0 codes.length) (initS ar codes)).2 (switchF codes (upto 0 codes.length) (initS ar codes)).1) := by
      rw [indexBlockF, if_neg (by lia), if_neg (by simp [har, hv])]
    have hs := switch_all (init_wf ar codes) (upto_inN (codes := codes)) rfl
    have hr := switchF_rows (codes := codes) (ps := upto 0 codes.length) (s := initS ar codes)
    rw [e]
    refine ⟨finish_ok hins hs.1, fun k => ?_⟩
    have hl := finish_laid (k := k) (wide := ar) hins hs.1 (by simp only [addRows]; rw [hr.2.2]; rfl)
    have hat : At (finishRows codes (addRows (switchF codes (upto 0 codes.length) (initS ar codes)).2 (switchF codes (upto 0 codes.length) (initS ar codes)).1)) 0 (switchF codes (upto 0 codes.length) (initS ar codes)).1 := by
      have := finish_at (codes := codes) (s := addRows (switchF codes (upto 0 codes.length) (initS ar codes)).2 (switchF codes (upto 0 codes.length) (initS ar codes)).1)
      rw [show (addRows (switchF codes (upto 0 codes.length) (initS ar codes)).2 (switchF codes (upto 0 codes.length) (initS ar codes)).1).rows = (switchF codes (upto 0 codes.length) (initS ar codes)).1 from by
        show (switchF codes (upto 0 codes.length) (initS ar codes)).2.rows ++ _ = _
        rw [hr.2.1]; rfl] at this
      exact this
    have hrun := hs.2.2 _ ar k _ 0 (finish_nodup hins hs.1) hl (fun _ h => h) hat
    exact run200 hrun (by rw [upto_length]; lia)
end SPl5
section SPl6
noncomputable abbrev JT := Int × (Nat → List (Int × Int)) × Nat
section
variable {L : List Ins} {m wide : Int} {k : Key}
theorem run_tailQ : ∀ (qs : List JT) (z : JT) (a : Nat), At L a (qs.map (fun q => Ins.retry q.1) ++ [.trust z.1]) → (∀ q ∈ qs, Jmp L m wide k q.1 q.2.1 q.2.2) → Jmp L m wide k z.1 z.2.1 z.2.2 →
    ∀ n left (e : Int) found out, afterF (runF L m wide k n) left (found ++ (qs.flatMap (fun q => q.2.1 (left.length + 1)) ++ z.2.1 left.length)) = some out →
      runF L m wide k (n + ((qs.map fun q => q.2.2 + 1).sum + (z.2.2 + 1))) ⟨a, left ++ [e], found⟩ = some out
  | [], z, a, hat, _, hz, n, left, e, found, out, h => by
    have hr := hat.head
    have := run_target (L := L) (m := m) (wide := wide) (k := k) (left := left ++ [e]) (found := found) (n := n) (out := out) hr rfl (lf := left) (by simp [effectF]) hz (by simpa using h)
    rw [show n + ((([] : List JT).map fun q => q.2.2 + 1).sum + (z.2.2 + 1)) = n + z.2.2 + 1 by simp; lia]
    exact this
  | y :: ys, z, a, hat, hy, hz, n, left, e, found, out, h => by
    have hr := hat.head
    have ih := run_tailQ ys z (a + 1) hat.tail (fun y' hy' => hy y' (.tail _ hy')) hz n left ((a : Int) + 1) (found ++ y.2.1 (left.length + 1)) out (by
      simp only [List.flatMap_cons, List.append_assoc] at h ⊢; exact h)
    have h2 : afterF (runF L m wide k (n + ((ys.map fun y => y.2.2 + 1).sum + (z.2.2 + 1)))) (left ++ [(a : Int) + 1]) (found ++ y.2.1 (left ++ [(a : Int) + 1]).length) = some out := by
      unfold afterF
      rw [List.getLast?_concat]
      simp only [List.length_append, List.length_cons, List.length_nil, Nat.zero_add]
      simpa using ih
    have := run_target (L := L) (m := m) (wide := wide) (k := k) (left := left ++ [e]) (found := found) (out := out) hr rfl (lf := left ++ [(a : Int) + 1]) (by simp [effectF]) (hy y (.head _)) h2
    rw [show n + (((y :: ys).map fun y => y.2.2 + 1).sum + (z.2.2 + 1)) = n + ((ys.map fun y => y.2.2 + 1).sum + (z.2.2 + 1)) + y.2.2 + 1 by simp only [List.map_cons, List.sum_cons]; lia]
    exact this
theorem run_chainQ {x z : JT} {ys : List JT} {a : Nat} (hat : At L a (.try_ x.1 wide :: (ys.map (fun q => Ins.retry q.1) ++ [.trust z.1]))) (hx : Jmp L m wide k x.1 x.2.1 x.2.2) (hy : ∀ y ∈ ys, Jmp L m wide k y.1 y.2.1 y.2.2) (hz : Jmp L m wide k z.1 z.2.1 z.2.2) :
    RunAt L m wide k a (fun d => (x :: ys).flatMap (fun y => y.2.1 (d + 1)) ++ z.2.1 d) (x.2.2 + 1 + ((ys.map fun y => y.2.2 + 1).sum + (z.2.2 + 1))) := by
  intro n left found out h
  have hr := hat.head
  have ih := run_tailQ ys z (a + 1) hat.tail hy hz n left ((a : Int) + 1) (found ++ x.2.1 (left.length + 1)) out (by
    simp only [List.flatMap_cons, List.append_assoc] at h ⊢; exact h)
  have h2 : afterF (runF L m wide k (n + ((ys.map fun y => y.2.2 + 1).sum + (z.2.2 + 1)))) (left ++ [(a : Int) + 1]) (found ++ x.2.1 (left ++ [(a : Int) + 1]).length) = some out := by
    unfold afterF
    rw [List.getLast?_concat]
    simp only [List.length_append, List.length_cons, List.length_nil, Nat.zero_add]
    simpa using ih
  have := run_target (L := L) (m := m) (wide := wide) (k := k) (left := left) (found := found) (out := out) hr rfl (lf := left ++ [(a : Int) + 1]) (by simp [effectF]) hx h2
  rw [show n + (x.2.2 + 1 + ((ys.map fun y => y.2.2 + 1).sum + (z.2.2 + 1))) = n + ((ys.map fun y => y.2.2 + 1).sum + (z.2.2 + 1)) + x.2.2 + 1 by lia]
  exact this
end
/-- the reserved labels -/
noncomputable def resv (qs : List (List Int × Int)) : List Int := qs.filterMap fun q => if 1 < q.1.length then some q.2 else none
theorem wf_perm {n : Int} {s : BS} {R R' : List Int} (h : WF n s R) (p : R.Perm R') : WF n s R' :=
  ⟨(p.append_left _).nodup_iff.mp h.nodup, fun l hl => h.rng l ((p.append_left _).mem_iff.mpr hl), h.nn, h.known, h.ps⟩
theorem labels_wf {codes : List Code} {n : Int} : ∀ (gs done : List (List Int)) (a : List Int × BS), done.length = a.1.length → WF n a.2 (resv (done.zip a.1)) → (∀ g ∈ gs, g ≠ []) →
    (∀ q ∈ done.zip a.1, q.1.length = 1 → q.1 = [q.2]) →
    WF n (gs.foldl labelStep a).2 (resv ((done ++ gs).zip (gs.foldl labelStep a).1)) ∧ (done ++ gs).length = (gs.foldl labelStep a).1.length ∧ ∀ q ∈ (done ++ gs).zip (gs.foldl labelStep a).1, q.1.length = 1 → q.1 = [q.2]
  | [], done, a, hl, hw, _, h1 => by
    rw [List.append_nil]; exact ⟨hw, hl, h1⟩
  | g :: gs, done, a, hl, hw, hne, h1 => by
    have hz : ∀ l, (done ++ [g]).zip (a.1 ++ [l]) = done.zip a.1 ++ [(g, l)] := fun l => by rw [List.zip_append hl]; rfl
    have step : (done ++ [g]).length = (labelStep a g).1.length ∧ WF n (labelStep a g).2 (resv ((done ++ [g]).zip (labelStep a g).1)) ∧ ∀ q ∈ (done ++ [g]).zip (labelStep a g).1, q.1.length = 1 → q.1 = [q.2] := by
      unfold labelStep
      split
      · rename_i hg
        obtain ⟨p, rfl⟩ := List.length_eq_one_iff.mp hg
        refine ⟨by simp [hl], ?_, ?_⟩
        · rw [hz]
          unfold resv at hw ⊢
          rw [List.filterMap_append]
          simpa using hw
        · rw [hz]
          intro q hq hq1
          rcases List.mem_append.mp hq with hq | hq
          · exact h1 q hq hq1
          · rw [List.mem_singleton.mp hq]; rfl
      · rename_i hg
        have hg1 : 1 < g.length := by
          have := hne g (.head _)
          have : 0 < g.length := List.length_pos_iff.mpr this
          lia
        refine ⟨by simp [hl], ?_, ?_⟩
        · have hb := (bump_wf (c := true) (d := 0) hw).1
          simp only [if_true] at hb
          have hb' : WF n { a.2 with next := a.2.next + 1 } ([a.2.next] ++ resv (done.zip a.1)) := hb
          have e : resv ((done ++ [g]).zip (a.1 ++ [a.2.next])) = resv (done.zip a.1) ++ [a.2.next] := by
            rw [hz]
            unfold resv
            rw [List.filterMap_append]
            simp [hg1]
          rw [e]
          exact wf_perm hb' List.perm_append_comm
        · rw [hz]
          intro q hq hq1
          rcases List.mem_append.mp hq with hq | hq
          · exact h1 q hq hq1
          · rw [List.mem_singleton.mp hq] at hq1
            simp only at hq1; lia
    have ih := labels_wf (codes := codes) gs (done ++ [g]) (labelStep a g) step.1 step.2.1 (fun g' hg' => hne g' (.tail _ hg')) step.2.2
    rw [List.foldl_cons]
    simpa using ih
/-- a part's switch runs -/
noncomputable def PartRun (codes : List Code) (n : Int) (q : List Int × Int) (fs : BS) : Prop :=
  ∃ pre post r, fs.rows = pre ++ (Ins.label q.2 :: r) ++ post ∧ n ≤ q.2 ∧
    ∀ (L : List Ins) (wide : Int) (k : Key) (ch : List (Int × List Int)) (a : Nat), (labs L).Nodup → Laid L n wide k ch → (∀ q ∈ fs.chains, q ∈ ch) → At L a r → RunAt L n wide k a (fun d => marks d (matchPlaces codes q.1 k)) (2 * q.1.length + 4)
theorem PartRun.mono {codes : List Code} {n : Int} {q : List Int × Int} {s s' : BS} (h : PartRun codes n q s) (hr : ∃ e, s'.rows = s.rows ++ e) (hc : ∀ q ∈ s.chains, q ∈ s'.chains) : PartRun codes n q s' := by
  obtain ⟨pre, post, r, h1, h2, h3⟩ := h
  obtain ⟨e, he⟩ := hr
  exact ⟨pre, post ++ e, r, by rw [he, h1]; simp, h2, fun L wide k ch a x y z => h3 L wide k ch a x y fun q hq => z q (hc q hq)⟩
theorem gswitch_all {codes : List Code} {n : Int} (hn : n = codes.length) : ∀ (qs : List (List Int × Int)) (s : BS), (∀ q ∈ qs, InN n q.1) → WF n s (resv qs) →
    WF n (qs.foldl (gswitchStep codes) s) [] ∧ (∃ e, (qs.foldl (gswitchStep codes) s).rows = s.rows ++ e) ∧ (∀ q ∈ s.chains, q ∈ (qs.foldl (gswitchStep codes) s).chains) ∧ (qs.foldl (gswitchStep codes) s).ar = s.ar ∧
      ∀ q ∈ qs, 1 < q.1.length → PartRun codes n q (qs.foldl (gswitchStep codes) s)
  | [], s, _, h => ⟨h, ⟨[], by simp⟩, fun _ h => h, rfl, by simp⟩
  | q :: qs, s, hq, h => by
    rw [List.foldl_cons]
    by_cases h1 : 1 < q.1.length
    · have hres : resv (q :: qs) = [q.2] ++ resv qs := by
        unfold resv; rw [List.filterMap_cons]; simp [h1]
      rw [hres] at h
      have hw1 : WF n (addRows s [.label q.2]) (resv qs) := rows_wf (r := [.label q.2]) h
      have hlab : n ≤ q.2 := (h.rng q.2 (by simp)).1
      have hs := switch_all hw1 (hq q (.head _)) hn
      have hr := switchF_rows (codes := codes) (ps := q.1) (s := addRows s [.label q.2])
      have e : gswitchStep codes s q = addRows (switchF codes q.1 (addRows s [.label q.2])).2 (switchF codes q.1 (addRows s [.label q.2])).1 := by rw [gswitchStep, if_pos h1]
      have ih := gswitch_all hn qs (gswitchStep codes s q) (fun q' hq' => hq q' (.tail _ hq')) (by rw [e]; exact hs.1)
      have erows : (gswitchStep codes s q).rows = s.rows ++ ([.label q.2] ++ (switchF codes q.1 (addRows s [.label q.2])).1) := by
        rw [e]
        show (switchF codes q.1 (addRows s [.label q.2])).2.rows ++ _ = _
        rw [hr.2.1]
        simp [addRows]
      have hp : PartRun codes n q (gswitchStep codes s q) := by
        refine ⟨s.rows, [], (switchF codes q.1 (addRows s [.label q.2])).1, by rw [erows]; simp, hlab, fun L wide k ch a x y z => hs.2.2 L wide k ch a x y fun q' hq' => z q' ?_⟩
        rw [e]; exact hq'
      refine ⟨ih.1, ?_, fun q' hq' => ih.2.2.1 q' (by rw [e]; exact hs.2.1 q' hq'), ?_, ?_⟩
      · obtain ⟨e1, he1⟩ := ih.2.1
        exact ⟨_, by rw [he1, erows, List.append_assoc]⟩
      · rw [ih.2.2.2.1, e]
        show (switchF codes q.1 (addRows s [.label q.2])).2.ar = _
        rw [hr.2.2]; rfl
      · intro q' hq' hl
        rcases List.mem_cons.mp hq' with rfl | hq'
        · exact hp.mono ih.2.1 ih.2.2.1
        · exact ih.2.2.2.2 q' hq' hl
    · have hres : resv (q :: qs) = resv qs := by
        unfold resv; rw [List.filterMap_cons]; simp [h1]
      rw [hres] at h
      have e : gswitchStep codes s q = s := by rw [gswitchStep, if_neg h1]
      rw [e]
      have ih := gswitch_all hn qs s (fun q' hq' => hq q' (.tail _ hq')) h
      refine ⟨ih.1, ih.2.1, ih.2.2.1, ih.2.2.2.1, fun q' hq' hl => ?_⟩
      rcases List.mem_cons.mp hq' with rfl | hq'
      · exact absurd hl h1
      · exact ih.2.2.2.2 q' hq' hl
end SPl6
section SPl7
theorem marks_fst (d : Nat) : ∀ vs : List Int, (marks d vs).map (·.1) = vs
  | [] => rfl
  | [v] => rfl
  | v :: w :: r => by
    have := marks_fst d (w :: r)
    simp only [marks, List.map_cons, List.cons.injEq, true_and] at this ⊢
    exact this
theorem filter_due {due : List Int} : due.filter (fun p => decide (p ∈ due)) = due := List.filter_eq_self.mpr fun p hp => by simp [hp]
theorem zip_ends {α : Type} {l : List α} (h : 2 ≤ l.length) : ∃ x ys z, l = x :: (ys ++ [z]) := by
  match l, h with
  | x :: y :: r, _ =>
    refine ⟨x, (y :: r).dropLast, (y :: r).getLast (by simp), ?_⟩
    rw [List.dropLast_concat_getLast]
theorem group_block_ok {codes : List Code} {ar : Int} (h2 : 2 ≤ codes.length) (h8 : codes.length ≤ 8) (har : ar ≠ 0) (hins : ∀ k ∈ codes, labs k.ins = []) :
    BlockOk (groupBlockF ar codes) codes ∧ ∀ k, ∃ out, runF (groupBlockF ar codes) codes.length ar k 200 ⟨0, [], []⟩ = some out ∧
      (out.map (·.1)).filter (fun p => decide (p ∈ matchPlaces codes (upto 0 codes.length) k)) = matchPlaces codes (upto 0 codes.length) k := by
  by_cases hv : allVar codes = true
  · have e : groupBlockF ar codes = chainBlockF ar codes := by rw [groupBlockF, if_neg (by lia), if_pos (.inr hv)]
    rw [e]
    have h := chain_block_ok (ar := ar) h2 h8 hins
    refine ⟨h.1, fun k => ⟨_, h.2 k, ?_⟩⟩
    rw [matchPlaces_allVar hv, marks_fst]; exact filter_due
  obtain ⟨gs, hgs⟩ : ∃ gs, gs = groupsF codes := ⟨_, rfl⟩
  have hfl : gs.flatten = upto 0 codes.length := by rw [hgs]; exact groupsF_flat
  have hne : ∀ g ∈ gs, g ≠ [] := by rw [hgs]; exact groupsF_ne
  by_cases hone : gs.length = 1
  · obtain ⟨g0, hg0⟩ : ∃ g0, gs = [g0] := List.length_eq_one_iff.mp hone
    have hg : g0 = upto 0 codes.length := by rw [hg0] at hfl; simpa using hfl
    have e : groupBlockF ar codes = indexBlockF ar codes := by
      have e1 : indexBlockF ar codes = finishRows codes (addRows (switchF codes (upto 0 codes.length) (initS ar codes)).2 (switchF codes (upto 0 codes.length) (initS ar codes)).1) := by
        rw [indexBlockF, if_neg (by lia), if_neg (by simp [har, hv])]
      rw [e1, groupBlockF, if_neg (by lia), if_neg (by simp [har, hv])]
      simp only [← hgs, if_pos hone]
      rw [hg0, hg]; rfl
    rw [e]
    have h := index_block_ok (ar := ar) h2 h8 har hins
    refine ⟨h.1, fun k => ⟨_, h.2 k, ?_⟩⟩
    rw [marks_fst]; exact filter_due
  have hgn : gs.length ≤ codes.length := by
    have := flatten_len hne
    rw [hfl, upto_length] at this; lia
  have hg2 : 2 ≤ gs.length := by
    have : gs ≠ [] := by
      intro z
      rw [z, List.flatten_nil] at hfl
      have := congrArg List.length hfl
      rw [upto_length, List.length_nil] at this; lia
    have := List.length_pos_iff.mpr this
    lia
  have hgin : ∀ g ∈ gs, InN codes.length g := fun g hg p hp => by
    refine upto_inN (codes := codes) p ?_
    rw [← hfl]
    exact List.mem_flatten.mpr ⟨g, hg, hp⟩
  obtain ⟨lf, hlf⟩ : ∃ lf, lf = labelsF gs (initS ar codes) := ⟨_, rfl⟩
  have hls := labelFold_same gs ([], initS ar codes)
  rw [show gs.foldl labelStep ([], initS ar codes) = lf from hlf.symm] at hls
  simp only [List.length_nil, Nat.zero_add] at hls
  have hlw := labels_wf (codes := codes) gs [] ([], initS ar codes) rfl (init_wf ar codes) hne (by simp)
  rw [show gs.foldl labelStep ([], initS ar codes) = lf from hlf.symm, List.nil_append] at hlw
  obtain ⟨qs, hqs⟩ : ∃ qs, qs = gs.zip lf.1 := ⟨_, rfl⟩
  rw [← hqs] at hlw
  obtain ⟨hw, hlen, hsing⟩ := hlw
  obtain ⟨s₁, hs₁⟩ : ∃ s₁, s₁ = { lf.2 with rows := chainRows ar lf.1 } := ⟨_, rfl⟩
  have hw₁ : WF codes.length s₁ (resv qs) := by
    rw [hs₁]
    have hr0 : lf.2.rows = [] := by rw [hls.2.1]; rfl
    refine ⟨?_, ?_, hw.nn, hw.known, hw.ps⟩
    · rw [labs_chainRows]
      have := hw.nodup
      rw [hr0] at this
      exact this
    · intro l hl
      rw [labs_chainRows] at hl
      refine hw.rng l ?_
      rw [hr0]
      exact hl
  have hqin : ∀ q ∈ qs, InN codes.length q.1 := by rw [hqs]; exact fun q hq => hgin _ (List.of_mem_zip hq).1
  have hall := gswitch_all rfl qs s₁ hqin hw₁
  obtain ⟨fs, hfs⟩ : ∃ fs, fs = qs.foldl (gswitchStep codes) s₁ := ⟨_, rfl⟩
  rw [← hfs] at hall
  obtain ⟨hwf, ⟨ext, hext⟩, hch, harf, hpart⟩ := hall
  have e : groupBlockF ar codes = finishRows codes fs := by
    rw [groupBlockF, if_neg (by lia), if_neg (by simp [har, hv])]
    simp only [← hgs, if_neg hone]
    rw [hfs, hs₁, hqs, hlf]
  rw [e]
  refine ⟨finish_ok hins hwf, fun k => ?_⟩
  have harr : fs.ar = ar := by rw [harf, hs₁]; exact hls.2.2.1
  have hlaid := finish_laid (k := k) (wide := ar) hins hwf harr
  have hnd := finish_nodup hins hwf
  have hjmp : ∀ q ∈ qs, Jmp (finishRows codes fs) codes.length ar k q.2 (fun d => marks d (if q.1.length = 1 then q.1 else matchPlaces codes q.1 k)) (2 * q.1.length + 5) := by
    intro q hq
    by_cases h1 : q.1.length = 1
    · have hq1 := hsing q hq h1
      have hin := hqin q hq q.2 (by rw [hq1]; exact .head _)
      simp only [if_pos h1]
      rw [hq1]
      exact (hlaid.clause q.2 hin.1 hin.2).le (by lia)
    · have hpos : 0 < q.1.length := List.length_pos_iff.mpr (hne q.1 (by rw [hqs] at hq; exact (List.of_mem_zip hq).1))
      obtain ⟨pre, post, r, hrows, hn0, hrun⟩ := hpart q hq (by lia)
      simp only [if_neg h1]
      have hat0 : At (finishRows codes fs) pre.length (Ins.label q.2 :: r) := by
        have h0 := finish_at (codes := codes) (s := fs)
        rw [hrows] at h0
        have := h0.left.right
        simpa using this
      exact jmp_at hnd (by lia) hat0.head (run_label hat0.head (by lia) (hrun _ ar k _ (pre.length + 1) hnd hlaid (fun _ h => h) hat0.tail))
  have hq2 : 2 ≤ qs.length := by rw [hqs, List.length_zip]; lia
  obtain ⟨qx, qy, qz, hqq⟩ := zip_ends hq2
  have hlab : lf.1 = qx.2 :: (qy.map (·.2) ++ [qz.2]) := by
    have : lf.1 = qs.map (·.2) := by rw [hqs]; exact (List.map_snd_zip (by lia)).symm
    rw [this, hqq]; simp
  have hat : At (finishRows codes fs) 0 (chainRows ar lf.1) := by
    have h0 := finish_at (codes := codes) (s := fs)
    rw [hext, hs₁] at h0
    exact h0.left
  rw [hlab, chainRows_eq] at hat
  let T : List Int × Int → JT := fun q => (q.2, (fun d => marks d (if q.1.length = 1 then q.1 else matchPlaces codes q.1 k)), 2 * q.1.length + 5)
  have hrun := run_chainQ (L := finishRows codes fs) (m := codes.length) (wide := ar) (k := k) (x := T qx) (z := T qz) (ys := qy.map T) (a := 0) (by
      rw [List.map_map]
      rw [List.map_map] at hat
      exact hat) (hjmp qx (by rw [hqq]; exact .head _)) (fun y hy => by
      obtain ⟨q, hq, rfl⟩ := List.mem_map.mp hy
      exact hjmp q (by rw [hqq]; simp [hq])) (hjmp qz (by rw [hqq]; simp))
  have hcost : (T qx).2.2 + 1 + (((qy.map T).map fun y => y.2.2 + 1).sum + ((T qz).2.2 + 1)) ≤ 200 := by
    have h1 : ((qy.map T).map fun y => y.2.2 + 1).sum = 2 * (qy.map fun q => q.1.length).sum + 6 * qy.length := by
      rw [List.map_map]
      generalize qy = l
      induction l with
      | nil => rfl
      | cons a l ih => simp only [List.map_cons, List.sum_cons, List.length_cons, ih, Function.comp, T]; lia
    have h3 : (qs.map fun q => q.1.length).sum = codes.length := by
      have : qs.map (fun q => q.1.length) = gs.map List.length := by
        have h5 : gs = qs.map (·.1) := by rw [hqs]; exact (List.map_fst_zip (by lia)).symm
        rw [h5, List.map_map]; rfl
      rw [this, ← List.length_flatten, hfl, upto_length]; lia
    have h4 : qs.length ≤ codes.length := by rw [hqs, List.length_zip]; lia
    rw [hqq] at h3 h4
    simp only [List.map_cons, List.map_append, List.map_nil, List.sum_cons, List.sum_append, List.sum_nil, List.length_cons, List.length_append, List.length_nil] at h3 h4
    rw [h1]
    simp only [T]
    lia
  refine ⟨_, run200 hrun hcost, ?_⟩
  have hmap : ((((T qx) :: qy.map T).flatMap (fun y => y.2.1 (0 + 1)) ++ (T qz).2.1 0).map (·.1)) = gs.flatMap fun g => if g.length = 1 then g else matchPlaces codes g k := by
    have h5 : gs = qs.map (·.1) := by rw [hqs]; exact (List.map_fst_zip (by lia)).symm
    have h6 : ∀ l : List (List Int × Int), ((l.map T).flatMap fun y => y.2.1 (0 + 1)).map (·.1) = l.flatMap fun q => if q.1.length = 1 then q.1 else matchPlaces codes q.1 k := by
      intro l
      induction l with
      | nil => rfl
      | cons a l ih =>
        simp only [List.map_cons, List.flatMap_cons, List.map_append, T, marks_fst]
        exact congrArg _ ih
    rw [← List.map_cons, List.map_append, h6, h5, hqq]
    simp only [List.map_cons, List.map_append, List.map_nil, List.flatMap_cons, List.flatMap_append, List.flatMap_nil, List.append_nil, List.flatMap_map, T, marks_fst, List.append_assoc]
  rw [hmap]
  have hmem : ∀ p ∈ gs.flatMap (fun g => if g.length = 1 then g else matchPlaces codes g k), decide (p ∈ matchPlaces codes (upto 0 codes.length) k) = matchK (keyAt codes p) k := by
    intro p hp
    obtain ⟨g, hg, hpg⟩ := List.mem_flatMap.mp hp
    have hpg' : p ∈ g := by
      split at hpg
      · exact hpg
      · exact (List.mem_filter.mp hpg).1
    have hpu : p ∈ upto 0 codes.length := by rw [← hfl]; exact List.mem_flatten.mpr ⟨g, hg, hpg'⟩
    unfold matchPlaces
    cases hm : matchK (keyAt codes p) k <;> simp [List.mem_filter, hpu, hm]
  rw [List.filter_congr hmem]
  have h7 : ∀ l : List (List Int), (l.flatMap fun g => if g.length = 1 then g else matchPlaces codes g k).filter (fun p => matchK (keyAt codes p) k) = l.flatten.filter fun p => matchK (keyAt codes p) k := by
    intro l
    induction l with
    | nil => rfl
    | cons g l ih =>
      rw [List.flatMap_cons, List.filter_append, List.flatten_cons, List.filter_append, ih]
      congr 1
      split
      · rfl
      · unfold matchPlaces
        rw [List.filter_filter]
        simp
  rw [h7, hfl]; rfl
end SPl7
section SLb
/-- the def of the text at an address -/
noncomputable def bodyAt (K : Frag) (a : Addr) : List Stmt := match K.lookup a with | some ⟨_, _, .func fd, _⟩ => (match fd.body with | .stmts b => b | _ => []) | _ => []
noncomputable def scopeAt (K : Frag) (a : Addr) : Option Scope := match K.lookup a with | some ⟨_, _, .func fd, _⟩ => some fd.scope | _ => none
/-- the law's row of a number -/
noncomputable def stAt (P : Params) (i : Nat) : Stmt := match (bodyAt (heapK P) 322)[i]? with | some s => s | none => .Pass default
noncomputable def inF (L : Addr) : Addr → Prop := fun a => L ≤ a ∧ a ≤ L + 5
theorem inF1 {L : Addr} : inF L (L + 1) := ⟨Nat.le_add_right _ _, Nat.add_le_add_left (by decide) _⟩
theorem inF2 {L : Addr} : inF L (L + 1 + 1) := by
  have key : ∀ L : Nat, L ≤ L + 1 + 1 ∧ L + 1 + 1 ≤ L + 5 := by intro L; lia
  exact key L
theorem inF3 {L : Addr} : inF L (L + 1 + 1 + 1) := by
  have key : ∀ L : Nat, L ≤ L + 1 + 1 + 1 ∧ L + 1 + 1 + 1 ≤ L + 5 := by intro L; lia
  exact key L
theorem inF4 {L : Addr} : inF L (L + 1 + 1 + 1 + 1) := by
  have key : ∀ L : Nat, L ≤ L + 1 + 1 + 1 + 1 ∧ L + 1 + 1 + 1 + 1 ≤ L + 5 := by intro L; lia
  exact key L
theorem inF5 {L : Addr} : inF L (L + 1 + 1 + 1 + 1 + 1) := by
  have key : ∀ L : Nat, L ≤ L + 1 + 1 + 1 + 1 + 1 ∧ L + 1 + 1 + 1 + 1 + 1 ≤ L + 5 := by intro L; lia
  exact key L
noncomputable abbrev lawCells (L : Addr) : List (Str × Addr) :=
  [(Str.ofString "empty", L + 1 + 1 + 1 + 1 + 1), (Str.ofString "key", L + 1 + 1 + 1 + 1), (Str.ofString "due", L + 1 + 1 + 1), (Str.ofString "codes", L + 1 + 1), (Str.ofString "many", L + 1)]
/-- the law's own frame -/
structure LE (w : World) (L : Addr) (env : Env) : Prop where
  sc : scopeAt (heapK w.params) 322 = some env.scope
  cells : env.cells = lawCells L
theorem cells_of {env : Env} {cs : List (Str × Addr)} {x : Str} {a : Addr} (h : env.cells = cs) (e : cs.lookup x = some a) : env.cells.lookup x = some a := by rw [h]; exact e
theorem swaps_eq {env : Env} {elt : PySem.Expr} {gs : List Comprehension} {scope : Scope} {pos p : Pos} {t : Str} {n : Nat} : swapsWith (.ListComp elt gs scope pos) (some (.Name t p)) n env =
    pure (env.blockKind == .function && env.kindOf t == some .local && p.line == pos.line && !(scope.names.any fun (n, k) => n == t && (k == .local || k == .cell))) := rfl
theorem swaps_cell {env : Env} {elt : PySem.Expr} {gs : List Comprehension} {scope : Scope} {pos p : Pos} {t : Str} {n : Nat} (h : env.kindOf t = some .cell) : swapsWith (.ListComp elt gs scope pos) (some (.Name t p)) n env = pure false := by
  have : (env.kindOf t == some NameKind.local) = false := by rw [h]; rfl
  rw [swaps_eq, this, Bool.and_false, Bool.false_and, Bool.false_and]
theorem swaps_local {env : Env} {sc : Scope} {elt : PySem.Expr} {gs : List Comprehension} {scope : Scope} {pos p : Pos} {t : Str} {n : Nat} (h : env.scope = sc) (hk : sc.kind = .function) (h1 : sc.names.lookup t = some .local) (h2 : p.line = pos.line)
    (h3 : (scope.names.any fun (n, k) => n == t && (k == .local || k == .cell)) = false) : swapsWith (.ListComp elt gs scope pos) (some (.Name t p)) n env = pure true := by
  have a1 : (env.kindOf t == some NameKind.local) = true := by rw [kd_of h h1]; rfl
  have a2 : (env.blockKind == ScopeKind.function) = true := by
    unfold Env.blockKind
    rw [h, hk]; rfl
  have a3 : (p.line == pos.line) = true := by rw [h2]; exact beq_self_eq_true _
  rw [swaps_eq, a1, a2, a3, h3]; rfl
/- what lives outside -/
noncomputable def Live (S : List Addr) (σ : Hp) : Prop := ∀ b ∈ S, ∃ mo, σ b = some mo
theorem Live.not {S : List Addr} {σ : Hp} (h : Live S σ) {a : Addr} (e : σ a = none) : a ∉ S := fun hm => by
  obtain ⟨mo, h1⟩ := h a hm
  rw [e] at h1; cases h1
theorem Sym.extT {σ σ' : Hp} {a : SA} {F : List (Int × Int)} {N : Nat} {T : List Addr} (Y : Sym σ a F N) (E : Ext T σ σ') (h : ∀ b ∈ T, b ≠ a.y ∧ b ≠ a.dy ∧ b ∉ a.S) : Sym σ' a F N := by
  obtain ⟨X, t1, t2⟩ := Y.tx
  obtain ⟨A, a1, a2, a3⟩ := Y.an
  obtain ⟨B, b1, b2, b3⟩ := Y.fn
  have nt : ∀ {b}, (b = a.y ∨ b = a.dy ∨ b ∈ a.S) → b ∉ T := fun {b} hb ht => by
    obtain ⟨n1, n2, n3⟩ := h b ht
    rcases hb with hb | hb | hb
    · exact n1 hb
    · exact n2 hb
    · exact n3 hb
  exact ⟨E _ _ (nt (.inl rfl)) Y.ix, E _ _ (nt (.inr (.inl rfl))) Y.ns, ⟨X, E _ _ (nt (.inr (.inr (by simp [SA.S])))) t1, t2⟩, ⟨A, E _ _ (nt (.inr (.inr (by simp [SA.S])))) a1, a2, a3⟩, E _ _ (nt (.inr (.inr (by simp [SA.S])))) Y.fl, Y.fz,
    ⟨B, E _ _ (nt (.inr (.inr (by simp [SA.S])))) b1, b2, b3⟩, Y.ne⟩
theorem Sym.live {σ : Hp} {a : SA} {F : List (Int × Int)} {N : Nat} (Y : Sym σ a F N) : Live a.S σ := by
  obtain ⟨X, t1, t2⟩ := Y.tx
  obtain ⟨A, a1, a2, a3⟩ := Y.an
  obtain ⟨B, b1, b2, b3⟩ := Y.fn
  intro b hb
  simp only [SA.S, List.mem_cons, List.not_mem_nil, or_false] at hb
  rcases hb with rfl | rfl | rfl | rfl
  · exact ⟨_, t1⟩
  · exact ⟨_, a1⟩
  · exact ⟨_, Y.fl⟩
  · exact ⟨_, b1⟩
theorem Live.ext {S T : List Addr} {σ σ' : Hp} (h : Live S σ) (E : Ext T σ σ') (hT : ∀ b ∈ S, b ∈ T → ∃ mo, σ' b = some mo) : Live S σ' := fun b hb => by
  by_cases ht : b ∈ T
  · exact hT b hb ht
  · obtain ⟨mo, h1⟩ := h b hb
    exact ⟨mo, E b mo ht h1⟩
theorem CodeAt.sub {S T : List Addr} {σ : Hp} {a : Addr} {k : Code} (h : CodeAt S σ a k) (hs : ∀ b ∈ T, b ∈ S) : CodeAt T σ a k := by
  obtain ⟨dx, il, f, u, h1, h2, h3, n1, n2, n3⟩ := h.at_
  exact ⟨dx, il, f, u, h1, h2, h3, fun z => n1 (hs _ z), fun z => n2 (hs _ z), fun z => n3 (hs _ z)⟩
theorem Codes.sub {S T : List Addr} {σ : Hp} {cs : Addr} {codes : List Code} (h : Codes S σ cs codes) (hs : ∀ b ∈ T, b ∈ S) : Codes T σ cs codes := by
  obtain ⟨as, h1, n1, r⟩ := h.at_
  exact ⟨as, h1, fun z => n1 (hs _ z), r.mono fun a k x => x.sub hs⟩
theorem Codes.nil {S : List Addr} {σ : Hp} {cs : Addr} {codes : List Code} (h : Codes S σ cs codes) : Codes [] σ cs codes := h.sub (by simp)
/-- a clause's rows -/
noncomputable def insOf (i : Nat) : List Ins := [.getc 5 i, .proceed]
noncomputable def CI (codes : List Code) : Prop := ∀ (i : Nat) k, codes[i]? = some k → k.ins = insOf i
theorem CI.labs {codes : List Code} (h : CI codes) : ∀ k ∈ codes, labs k.ins = [] := fun k hk => by
  obtain ⟨i, hi⟩ := List.getElem?_of_mem hk
  rw [h i k hi]; rfl
theorem CI.len {codes : List Code} (h : CI codes) : ∀ k ∈ codes, k.ins.length ≤ 100 := fun k hk => by
  obtain ⟨i, hi⟩ := List.getElem?_of_mem hk
  rw [h i k hi]; simp [insOf]
end SLb
local macro_rules | `(tactic| k_extra "inf") => `(tactic| first | exact inF1 | exact inF2 | exact inF3 | exact inF4 | exact inF5)
local macro_rules | `(tactic| k_extra "1") => `(tactic| (first
  | ((with_reducible refine' Ev_cell ?o ?l ?k ?h ?d); (case o => assumption); (case k => k_extra "kd"); (case l => k_extra "lk"); (case d => decide +kernel))
  | ((with_reducible refine' k_AssignC ?o ?h ?k ?x ?f ?s); (case o => assumption); (case k => k_extra "kd"); (case x => exact cells_of (by assumption) rfl); (case f => k_extra "inf"); (case s => exact rfl))
  | (with_reducible refine' IfsT_nil ?_)
  | (with_reducible refine' IfsT_one ?_)
  | ((with_reducible refine' Tg_cell ?o ?k ?x ?f ?h); (case o => assumption); (case k => k_extra "kd"); (case x => exact cells_of (by assumption) rfl); (case f => k_extra "inf"))))
local macro_rules | `(tactic| k_extra "cof") => `(tactic| exact cells_of (cs := lawCells _) (by assumption) rfl)
section SLg1
variable {w : World} {base : Heap} {mg mb : Str → Option Value}
-- set_option profiler true
-- set_option profiler.threshold 1000
noncomputable abbrev loc7 (r y cs : Addr) (W f m : Int) : Loc := [(Str.ofString "row", .r r), (Str.ofString "signs", .r y), (Str.ofString "wide", intPV W), (Str.ofString "name", intPV f), (Str.ofString "many", intPV m), (Str.ofString "codes", .r cs)]
set_option maxHeartbeats 8000000 in
theorem law_codes {A : Around} {L : Addr} {env : Env} (O : Cx.Ok ⟨gx w base mg mb, A, inF L, env⟩ 6) (H : LE w L env) {σ : Hp} {y r cs : Addr} {S : List Addr} {f W m : Int} {ys : List Int} {Q : AF → Loc → Hp → Prop}
    (hr : σ r = some (iL ys)) (hy : ys.length ≤ 2000) (hc : σ cs = some (.list [])) (hrc : r ≠ cs) (hm : 0 ≤ m) (hm8 : m < 8) (hS : Live (r :: S) σ) (hcS : cs ∉ S)
    (h : ∀ l σ' codes ys', LocLe (loc7 r y cs W f m) l →
      codes.length = m.toNat → Codes (r :: S) σ' cs codes → CI codes → σ' r = some (iL ys') → ys'.length ≤ 2000 → Ext [r, cs] σ σ' → Q .next l σ') :
    Ex1 ⟨gx w base mg mb, A, inF L, env⟩ (stAt w.params 6) (loc7 r y cs W f m) σ Q := by
  have G := O.toOk
  have hs := H.sc
  conv at hs => lhs; whnf; arg 1; whnf
  have hsc := (Option.some.inj hs).symm
  clear hs
  have hce := H.cells
  conv => arg 2; whnf
  ((with_reducible refine' Ex1_For ?z290o ?z290h ?z290s); (case z290o => assumption); (case z290s => (intro _; rfl)))
  k_extra "g"
  k_extra "w"
  obtain ⟨J, hJ⟩ : ∃ J : Nat → Loc → Hp → Prop, ∀ i l σ', J i l σ' ↔ (LocLe (loc7 r y cs W f m) l ∧ Ext [r, cs] σ σ' ∧ ∃ (codes : List Code) (as : List Addr) (ys' : List Int), codes.length = i ∧ CI codes ∧ σ' r = some (iL ys') ∧ ys'.length ≤ 2000 ∧
    σ' cs = some (.list (as.map .r)) ∧ All2 (CodeAt (cs :: r :: S) σ') as codes) := ⟨_, fun _ _ _ => Iff.rfl⟩
  refine Fn_range1 ⟨(upto 0 m).map fun i => .d (.int i), J, (hJ _ _ _).mpr ⟨LocLe.refl _, Ext.refl, [], [], ys, rfl, (fun i k e => by simp at e), hr, hy, hc, .nil⟩, fun i l σ' hj => items_rng (by lia) (by lia) (by lia) (by lia), ?_, ?_⟩
  · intro i l σ' v hv hj
    obtain ⟨hl, E, codes, as, ys', h1, h2, h3, h4, h5, h6⟩ := (hJ _ _ _).mp hj
    obtain ⟨rfl, hi⟩ := upto_get hv
    rw [Int.zero_add]
    refine Tg.weak hl ?_
    k_extra "w"
    (first | refine ⟨[_], rfl, Nat.le_of_ble_eq_true rfl, ?_⟩ | refine ⟨[_, _], rfl, Nat.le_of_ble_eq_true rfl, ?_⟩ | refine ⟨[_, _, _], rfl, Nat.le_of_ble_eq_true rfl, ?_⟩ | refine ⟨[_, _, _, _], rfl, Nat.le_of_ble_eq_true rfl, ?_⟩ | refine ⟨[_, _, _, _, _], rfl, Nat.le_of_ble_eq_true rfl, ?_⟩)
    k_extra "w"
    (first | refine ⟨[_], rfl, Nat.le_of_ble_eq_true rfl, ?_⟩ | refine ⟨[_, _], rfl, Nat.le_of_ble_eq_true rfl, ?_⟩ | refine ⟨[_, _, _], rfl, Nat.le_of_ble_eq_true rfl, ?_⟩ | refine ⟨[_, _, _, _], rfl, Nat.le_of_ble_eq_true rfl, ?_⟩ | refine ⟨[_, _, _, _, _], rfl, Nat.le_of_ble_eq_true rfl, ?_⟩)
    k_extra "w"
    (first | refine ⟨[_], rfl, Nat.le_of_ble_eq_true rfl, ?_⟩ | refine ⟨[_, _], rfl, Nat.le_of_ble_eq_true rfl, ?_⟩ | refine ⟨[_, _, _], rfl, Nat.le_of_ble_eq_true rfl, ?_⟩ | refine ⟨[_, _, _, _], rfl, Nat.le_of_ble_eq_true rfl, ?_⟩ | refine ⟨[_, _, _, _, _], rfl, Nat.le_of_ble_eq_true rfl, ?_⟩)
    k_extra "w"
    (first | refine ⟨[_], rfl, Nat.le_of_ble_eq_true rfl, ?_⟩ | refine ⟨[_, _], rfl, Nat.le_of_ble_eq_true rfl, ?_⟩ | refine ⟨[_, _, _], rfl, Nat.le_of_ble_eq_true rfl, ?_⟩ | refine ⟨[_, _, _, _], rfl, Nat.le_of_ble_eq_true rfl, ?_⟩ | refine ⟨[_, _, _, _, _], rfl, Nat.le_of_ble_eq_true rfl, ?_⟩)
    k_extra "w"
    refine ⟨Nat.le_of_ble_eq_true rfl, fun il hil => ?_⟩
    k_extra "w"
    have hL' : Live (cs :: r :: S) σ' := by
      intro b hb
      by_cases e1 : b = cs
      · exact ⟨_, by rw [e1]; exact h5⟩
      by_cases e2 : b = r
      · exact ⟨_, by rw [e2]; exact h3⟩
      have hb2 : b ∈ r :: S := (List.mem_cons.mp hb).resolve_left e1
      obtain ⟨mo, e⟩ := hS b hb2
      exact ⟨mo, E b mo (by simp [e1, e2]) e⟩
    have E1 : Ext [] σ' (setH σ' il (.list ((insOf i).map insPV))) := Ext.refl.new hil
    have hl1 : (setH σ' il (.list ((insOf i).map insPV))) il = some (.list ((insOf i).map insPV)) := setH_self
    have hdat : (MO.list [PV.d (PyData.tuple [PyData.str (Str.ofString "get_constant"), PyData.tuple [PyData.int 5, PyData.int i], PyData.tuple [PyData.str (Str.ofString "x"), PyData.int 1]]), PV.d (PyData.tuple [PyData.str (Str.ofString "proceed")])]) = .list ((insOf i).map insPV) := rfl
    rw [hdat]
    have hr1 := E1 _ _ (by simp) h3
    have hLa := hL'.ext E1 (by simp)
    generalize setH σ' il (.list ((insOf i).map insPV)) = σa at *
    clear hdat
    k_extra "g"
    k_extra "w"
    k_extra "g"
    k_extra "w"
    refine ((F_key G hr1 h4 fun k ys2 σb hyl hrb Eb => ?_).fn).up (by decide)
    k_extra "w"
    have hLb : Live (cs :: r :: S) σb := hLa.ext Eb (fun b _ hb => by rw [List.mem_singleton.mp hb]; exact ⟨_, hrb⟩)
    refine (F_ClauseCode G fun σc x dx hx hdx hcx hcdx Ec => ?_).up (by decide)
    have hcsb := Eb _ _ (by simpa using hrc.symm) (E1 _ _ (by simp) h5)
    have hcs' := Ec _ _ (by simp) hcsb
    have hilb := Eb _ _ (by intro z; rw [List.mem_singleton.mp z] at hil; rw [h3] at hil; cases hil) hl1
    refine ⟨_, hcs', by rw [List.length_map, h6.length, h1]; lia, ?_⟩
    k_extra "w"
    have Eall : Ext [r, cs] σ' (setH σc cs (.list (as.map .r ++ [.r x]))) := (((E1.mono (by simp)).trans (Eb.mono (by simp))).trans (Ec.mono (by simp))).setH (by simp)
    have nil_ : il ∉ cs :: r :: S := hL'.not hil
    have nx := hLb.not hx
    have ndx := hLb.not hdx
    have xcs : x ≠ cs := fun z => nx (by rw [z]; exact .head _)
    have dcs : dx ≠ cs := fun z => ndx (by rw [z]; exact .head _)
    have ics : il ≠ cs := fun z => nil_ (by rw [z]; exact .head _)
    refine (hJ _ _ _).mpr ⟨by k_extra "lle", E.trans Eall, codes ++ [⟨k, insOf i⟩], as ++ [x], ys2, by simp [h1], ?_, (setH_ne hrc).trans (Ec _ _ (by simp) hrb), by lia, by rw [setH_self]; simp, ?_⟩
    · intro j k' e
      by_cases hj : j < codes.length
      · rw [List.getElem?_append_left hj] at e; exact h2 j k' e
      · rw [List.getElem?_append_right (by lia)] at e
        have : j - codes.length = 0 := by
          have := (List.getElem?_eq_some_iff.mp e).1
          simp at this; lia
        rw [this] at e
        obtain rfl := Option.some.inj e
        show insOf i = insOf j
        congr 1; lia
    · refine all2_snoc (h6.mono fun a b c => c.ext Eall (by intro b hb; right; simp only [List.mem_cons, List.not_mem_nil, or_false] at hb ⊢; rcases hb with rfl | rfl <;> simp)) ⟨dx, il, _, _, (setH_ne xcs).trans hcx, (setH_ne dcs).trans hcdx, (setH_ne ics).trans (Ec _ _ (by simp) hilb), nx, ndx, nil_⟩
  · intro l σ' hj
    obtain ⟨hl, E, codes, as, ys', h1, h2, h3, h4, h5, h6⟩ := (hJ _ _ _).mp hj
    rw [upto_len] at h1
    refine h l σ' codes ys' hl (by rw [h1]; congr 1; lia) ⟨as, h5, ?_, h6.mono fun a k x => x.sub (by intro b hb; exact .tail _ hb)⟩ h2 h3 h4 E
    intro z
    rcases List.mem_cons.mp z with z | z
    · exact hrc z.symm
    · exact hcS z
end SLg1
section SLg2
variable {w : World} {base : Heap} {mg mb : Str → Option Value}
-- set_option profiler true
-- set_option profiler.threshold 1000
theorem all2_left {α β : Type} {R : α → β → Prop} {l : List α} {m : List β} (h : All2 R l m) : ∀ {i : Nat} {a : α}, l[i]? = some a → ∃ b, m[i]? = some b ∧ R a b := by
  induction h with
  | nil => intro i b hb; simp at hb
  | cons a _ ih =>
    intro i b hb
    cases i with
    | zero => simp at hb; subst hb; exact ⟨_, by simp, a⟩
    | succ i => simp at hb; obtain ⟨x, hx, hr⟩ := ih hb; exact ⟨x, by simpa using hx, hr⟩
noncomputable abbrev keyPV (k : Key) : PV := .d k.toData
set_option maxHeartbeats 8000000 in
theorem law_calls {A : Around} {L : Addr} {env : Env} (O : Cx.Ok ⟨gx w base mg mb, A, inF L, env⟩ 6) (H : LE w L env) {σ : Hp} {y r cs : Addr} {S : List Addr} {f W m : Int} {ys : List Int} {codes : List Code} {Q : AF → Loc → Hp → Prop}
    (hr : σ r = some (iL ys)) (hy : ys.length ≤ 2000) (C : Codes (r :: S) σ cs codes) (h8 : codes.length ≤ 8)
    (h : ∀ (l : Loc) (σ' : Hp) (ca : Addr) (ks : List Key), LocLe (setL (Str.ofString "calls") (.r ca) (loc7 r y cs W f m)) l → σ' ca = some (.list (ks.map keyPV)) → ks.length ≤ 100 → Codes (r :: S) σ' cs codes → Ext [r] σ σ' → Q .next l σ') :
    Ex1 ⟨gx w base mg mb, A, inF L, env⟩ (stAt w.params 7) (loc7 r y cs W f m) σ Q := by
  have G := O.toOk
  have hs := H.sc
  conv at hs => lhs; whnf; arg 1; whnf
  have hsc := (Option.some.inj hs).symm
  clear hs
  have hce := H.cells
  conv => arg 2; whnf
  k_extra "w"
  (first | refine ⟨[_], rfl, Nat.le_of_ble_eq_true rfl, ?_⟩ | refine ⟨[_, _], rfl, Nat.le_of_ble_eq_true rfl, ?_⟩ | refine ⟨[_, _, _], rfl, Nat.le_of_ble_eq_true rfl, ?_⟩ | refine ⟨[_, _, _, _], rfl, Nat.le_of_ble_eq_true rfl, ?_⟩ | refine ⟨[_, _, _, _, _], rfl, Nat.le_of_ble_eq_true rfl, ?_⟩)
  k_extra "w"
  (first | refine ⟨[_], rfl, Nat.le_of_ble_eq_true rfl, ?_⟩ | refine ⟨[_, _], rfl, Nat.le_of_ble_eq_true rfl, ?_⟩ | refine ⟨[_, _, _], rfl, Nat.le_of_ble_eq_true rfl, ?_⟩ | refine ⟨[_, _, _, _], rfl, Nat.le_of_ble_eq_true rfl, ?_⟩ | refine ⟨[_, _, _, _, _], rfl, Nat.le_of_ble_eq_true rfl, ?_⟩)
  k_extra "w"
  k_extra "g"
  k_extra "w"
  refine ((F_key G hr hy fun k1 ys1 σ1 hy1 hr1 E1 => ?_).fn).up (by decide)
  k_extra "w"
  k_extra "g"
  k_extra "w"
  refine ((F_key G hr1 (by lia) fun k2 ys2 σ2 hy2 hr2 E2 => ?_).fn).up (by decide)
  k_extra "w"
  refine ⟨Nat.le_of_ble_eq_true rfl, fun a0 ha0 => ?_⟩
  k_extra "w"
  have hdat : (MO.list [PV.d (PyData.tuple [PyData.str (Str.ofString "var")]), PV.d (PyData.tuple [PyData.str (Str.ofString "list")]), PV.d k1.toData, PV.d k2.toData]) = .list (([.var, .list, k1, k2] : List Key).map keyPV) := rfl
  rw [hdat]
  have C2 : Codes (r :: S) (setH σ2 a0 (.list (([.var, .list, k1, k2] : List Key).map keyPV))) cs codes := ((C.ext E1 (by simp)).ext E2 (by simp)).new ha0
  have E3 : Ext [r] σ (setH σ2 a0 (.list (([.var, .list, k1, k2] : List Key).map keyPV))) := (E1.trans E2).new ha0
  have hA : (setH σ2 a0 (.list (([.var, .list, k1, k2] : List Key).map keyPV))) a0 = some (.list (([.var, .list, k1, k2] : List Key).map keyPV)) := setH_self
  generalize setH σ2 a0 (.list (([.var, .list, k1, k2] : List Key).map keyPV)) = σ3 at *
  clear hdat ha0 E1 E2
  obtain ⟨as, hcs, ncs, hall⟩ := C2.at_
  have hallget : ∀ {i : Nat} {a : Addr}, as[i]? = some a → ∃ b, codes[i]? = some b ∧ CodeAt (r :: S) σ3 a b := all2_left hall
  refine Ev_CompG O hsc [] [] (fun D σ' pv ys => ∃ k : Key, ys = [keyPV k]) ?hclos ?hcell ?hkind ?hnames ?hcl ?hG ?h
  case hclos => (exact (closureFor_cells (by assumption)).trans rfl)
  case hcell => decide +kernel
  case hkind => rfl
  case hnames => decide +kernel
  case hcl => (refine hcl_of fun p hp => ?_; first | exact absurd hp List.not_mem_nil | (simp only [List.mem_cons, List.not_mem_nil, or_false] at hp; first | (rcases hp with rfl | rfl <;> k_extra "cof") | (subst hp; k_extra "cof")))
  case hG => exact fun D σ σ' p ys _ h => h
  case h =>
    k_extra "w"
    refine ⟨HlcOk.nil, as.map .r, fun σ' E => E _ _ (by simp) hcs, by rw [List.length_map, hall.length]; lia, ?_, ?_⟩
    · intro D i pv σ' C' hD hd hx E O' hsc'
      obtain ⟨a, ha, rfl⟩ := map_get hx
      unfold CompTurn
      k_extra "w"
      obtain ⟨b, hb, cb⟩ := hallget ha
      obtain ⟨dx, il, f', u, ix, ns, hil, n1, n2, n3⟩ := cb.at_
      have ix' := E _ _ (by simp) ix
      have ns' := E _ _ (by simp) ns
      (with_reducible refine' Op1_attr ?z299o ?z299ix ?z299ns ?z299lk ?z299hg ?z299hh ?z299ha ?z299h; (case z299o => assumption); (case z299ix => k_extra "sg"); (case z299ns => k_extra "sg"); (case z299lk => k_extra "lk"); (case z299hg => kernel_rfl); (case z299hh => kernel_rfl); (case z299ha => kernel_rfl))
      exact ⟨LocLe.nil, Ext.refl, b.key, rfl⟩
    · intro D σ' yss hD E hd hall2
      obtain ⟨ks, hks, hkl⟩ : ∃ ks : List Key, yss.flatten = ks.map keyPV ∧ ks.length ≤ 8 := by
        have h : ∀ {xs : List PV} {yss : List (List PV)}, All2 (fun pv ys => ∃ k : Key, ys = [keyPV k]) xs yss → ∃ ks : List Key, yss.flatten = ks.map keyPV ∧ ks.length = xs.length := by
          intro xs yss h
          induction h with
          | nil => exact ⟨[], rfl, rfl⟩
          | cons a _ ih =>
            obtain ⟨k, rfl⟩ := a
            obtain ⟨ks, e1, e2⟩ := ih
            exact ⟨k :: ks, by rw [List.flatten_cons, e1]; rfl, by simp [e2]⟩
        obtain ⟨ks, e1, e2⟩ := h hall2
        exact ⟨ks, e1, by rw [e2, List.length_map, hall.length]; exact h8⟩
      rw [hks] at hd
      have hA' := E _ _ (by simp) hA
      refine Op2_addL O hA' hd (by simp; lia) fun ca hca => ?_
      refine h _ _ ca ([.var, .list, k1, k2] ++ ks) (LocLe.refl _) (by rw [setH_self, List.map_append]) (by simp; lia) ((C2.ext E (by simp)).new hca) ((E3.trans (E.mono (by simp))).new hca)
end SLg2
section SLg3
variable {w : World} {base : Heap} {mg mb : Str → Option Value}
-- set_option profiler true
-- set_option profiler.threshold 1000
noncomputable abbrev loc8 (r y cs ca : Addr) (W f m : Int) : Loc := [(Str.ofString "row", .r r), (Str.ofString "signs", .r y), (Str.ofString "wide", intPV W), (Str.ofString "name", intPV f), (Str.ofString "many", intPV m), (Str.ofString "codes", .r cs), (Str.ofString "calls", .r ca)]
noncomputable abbrev rowsMO (B : List Ins) : MO := .list (B.map insPV)
set_option maxHeartbeats 8000000 in
theorem law_blocks {A : Around} {L : Addr} {env : Env} (O : Cx.Ok ⟨gx w base mg mb, A, inF L, env⟩ 6) (H : LE w L env) {σ : Hp} {y r cs ca : Addr} {f W m : Int} {codes : List Code} {Q : AF → Loc → Hp → Prop}
    (Y : ArAt σ y f W) (C : Codes [] σ cs codes) (h8 : codes.length ≤ 8) (hci : CI codes)
    (h : ∀ (l : Loc) (σ' : Hp) (bl b0 b1 b2 : Addr), LocLe (setL (Str.ofString "blocks") (.r bl) (loc8 r y cs ca W f m)) l → σ' bl = some (.list [.r b0, .r b1, .r b2]) → σ' b0 = some (rowsMO (indexBlockF W codes)) → σ' b1 = some (rowsMO (chainBlockF W codes)) → σ' b2 = some (rowsMO (groupBlockF W codes)) →
      Ext [] σ σ' → Q .next l σ') :
    Ex1 ⟨gx w base mg mb, A, inF L, env⟩ (stAt w.params 8) (loc8 r y cs ca W f m) σ Q := by
  have G := O.toOk
  have hs := H.sc
  conv at hs => lhs; whnf; arg 1; whnf
  have hsc := (Option.some.inj hs).symm
  clear hs
  have hce := H.cells
  conv => arg 2; whnf
  k_extra "w"
  k_extra "g"
  k_extra "w"
  refine ((F_index_block G Y C h8 hci.len fun b0 σ1 n0 h0 E1 => ?_).fn).up (by decide)
  k_extra "w"
  k_extra "g"
  k_extra "w"
  refine ((F_chain_block G (Y.ext E1) (C.ext E1 (by simp)) h8 hci.len fun b1 σ2 n1 h1 E2 => ?_).fn).up (by decide)
  k_extra "w"
  k_extra "g"
  k_extra "w"
  refine ((F_group_block G ((Y.ext E1).ext E2) ((C.ext E1 (by simp)).ext E2 (by simp)) h8 hci.len fun b2 σ3 n2 h2 E3 => ?_).fn).up (by decide)
  k_extra "w"
  refine ⟨Nat.le_of_ble_eq_true rfl, fun bl hbl => ?_⟩
  k_extra "w"
  exact h _ _ bl b0 b1 b2 (LocLe.refl _) setH_self (setH_new hbl (E3 _ _ (by simp) (E2 _ _ (by simp) h0))) (setH_new hbl (E3 _ _ (by simp) h1)) (setH_new hbl h2) (((E1.trans E2).trans E3).new hbl)
end SLg3
section SLg4
variable {w : World} {base : Heap} {mg mb : Str → Option Value}
-- set_option profiler true
-- set_option profiler.threshold 1000
noncomputable abbrev loc9 (r y cs ca bl : Addr) (W f m : Int) : Loc := [(Str.ofString "row", .r r), (Str.ofString "signs", .r y), (Str.ofString "wide", intPV W), (Str.ofString "name", intPV f), (Str.ofString "many", intPV m), (Str.ofString "codes", .r cs), (Str.ofString "calls", .r ca), (Str.ofString "blocks", .r bl)]
theorem pairNice : ∀ p : Key × Int, nice 18 (pairData p) = true := fun p => by
  obtain ⟨k, l⟩ := p
  cases k <;> simp [pairData, Key.word, Mine.nice]
theorem Ins.nice (r : Ins) : Mine.nice 20 r.toData = true := by
  have h' : PyData.strOk (Str.ofString r.name) = true := r.nice_name
  have hx : PyData.strOk (Str.ofString "x") = true := by decide +kernel
  rw [r.data]
  cases r <;> simp [Ins.args, Mine.nice, hx, sv, pairNice, h']
theorem rows_data {σ : Hp} {a : Addr} {B : List Ins} (h : σ a = some (rowsMO B)) : σ a = some (.list ((B.map Ins.toData).map .d)) := by rw [h, List.map_map]; rfl
theorem rows_nice {B : List Ins} : ∀ d ∈ B.map Ins.toData, Mine.nice 20 d = true := fun d hd => by
  obtain ⟨r, _, rfl⟩ := List.mem_map.mp hd
  exact r.nice
set_option maxHeartbeats 8000000 in
theorem law_small {A : Around} {L : Addr} {env : Env} (O : Cx.Ok ⟨gx w base mg mb, A, inF L, env⟩ 6) (H : LE w L env) {σ : Hp} {y r cs ca bl b0 b1 b2 : Addr} {f W m : Int} {codes : List Code} {Q : AF → Loc → Hp → Prop}
    (C : Codes [] σ cs codes) (hci : CI codes) (hm : codes.length = m.toNat) (hm0 : 0 ≤ m) (hbl : σ bl = some (.list [.r b0, .r b1, .r b2])) (hb0 : σ b0 = some (rowsMO (indexBlockF W codes))) (hb1 : σ b1 = some (rowsMO (chainBlockF W codes))) (hb2 : σ b2 = some (rowsMO (groupBlockF W codes)))
    (h1 : m < 2 → ∀ l σ', Q (.ret (.d (.bool true))) l σ') (h2 : 2 ≤ m → Q .next (loc9 r y cs ca bl W f m) σ) :
    Ex1 ⟨gx w base mg mb, A, inF L, env⟩ (stAt w.params 9) (loc9 r y cs ca bl W f m) σ Q := by
  have G := O.toOk
  have hs := H.sc
  conv at hs => lhs; whnf; arg 1; whnf
  have hsc := (Option.some.inj hs).symm
  clear hs
  have hce := H.cells
  conv => arg 2; whnf
  k_extra "w"
  by_cases hlt : m < 2
  · (with_reducible refine' Eq.mpr (if_pos ?z300n) ?z300h; (case z300n => ((try simp only [decide_eq_true_eq, Option.map_none, Option.isSome_none, Option.map_some, Option.isSome_some, Bool.false_eq_true, not_false_eq_true, List.length_cons, List.length_map, List.length_nil, Bool.not_eq_true]); first | done | lia | assumption)))
    k_extra "1"
    have hlen : codes.length < 2 := by lia
    have e0 : indexBlockF W codes = smallF codes := by rw [indexBlockF, if_pos hlen]
    have e1 : chainBlockF W codes = smallF codes := by rw [chainBlockF, if_pos hlen]
    have e2 : groupBlockF W codes = smallF codes := by rw [groupBlockF, if_pos hlen]
    rw [e0] at hb0
    rw [e1] at hb1
    rw [e2] at hb2
    refine Ex1_cut' (fun l σ' => ∃ du, LocLe (setL (Str.ofString "due") (.r du) (loc9 r y cs ca bl W f m)) l ∧ Ext [] σ σ' ∧ σ' du = some (rowsMO (smallF codes))) ?_ ?_
    · k_extra "w"
      by_cases hz : m = 0
      · (with_reducible refine' Eq.mpr (if_pos ?z301n) ?z301h; (case z301n => ((try simp only [decide_eq_true_eq, Option.map_none, Option.isSome_none, Option.map_some, Option.isSome_some, Bool.false_eq_true, not_false_eq_true, List.length_cons, List.length_map, List.length_nil, Bool.not_eq_true]); first | done | lia | assumption)))
        k_extra "w"
        (first | refine ⟨[_], rfl, Nat.le_of_ble_eq_true rfl, ?_⟩ | refine ⟨[_, _], rfl, Nat.le_of_ble_eq_true rfl, ?_⟩ | refine ⟨[_, _, _], rfl, Nat.le_of_ble_eq_true rfl, ?_⟩ | refine ⟨[_, _, _, _], rfl, Nat.le_of_ble_eq_true rfl, ?_⟩ | refine ⟨[_, _, _, _, _], rfl, Nat.le_of_ble_eq_true rfl, ?_⟩)
        k_extra "w"
        refine ⟨Nat.le_of_ble_eq_true rfl, fun du hdu => ?_⟩
        k_extra "w"
        have : codes = [] := List.eq_nil_of_length_eq_zero (by lia)
        exact ⟨du, LocLe.refl _, Ext.refl.new hdu, by rw [this]; exact setH_self⟩
      · (with_reducible refine' Eq.mpr (if_neg ?z303n) ?z303h; (case z303n => ((try simp only [decide_eq_true_eq, Option.map_none, Option.isSome_none, Option.map_some, Option.isSome_some, Bool.false_eq_true, not_false_eq_true, List.length_cons, List.length_map, List.length_nil, Bool.not_eq_true]); first | done | lia | assumption)))
        k_extra "w"
        obtain ⟨k, hk⟩ : ∃ k, codes = [k] := List.length_eq_one_iff.mp (by lia)
        obtain ⟨cxs, hcs, hlen', _, hget⟩ := C.get
        obtain ⟨a, ha, ck⟩ := hget (i := 0) (k := k) (by rw [hk]; rfl)
        obtain ⟨dx, il, f', u, ix, ns, hil, n1, n2, n3⟩ := ck.at_
        refine Op2_idxL hcs (by lia) (by lia) (pv := .r a) ha ?_
        k_extra "w"
        (with_reducible refine' Op1_attr ?z304o ?z304ix ?z304ns ?z304lk ?z304hg ?z304hh ?z304ha ?z304h; (case z304o => assumption); (case z304ix => k_extra "sg"); (case z304ns => k_extra "sg"); (case z304lk => k_extra "lk"); (case z304hg => kernel_rfl); (case z304hh => kernel_rfl); (case z304ha => kernel_rfl))
        exact ⟨il, LocLe.refl _, Ext.refl, by rw [hk]; exact hil⟩
    rintro l σ1 ⟨du, hl, E1, hdu⟩
    refine Mine.Ex.weak hl ?_
    k_extra "w"
    refine Ev_CompG O hsc [] [] (fun D σ' pv ys => ∃ b, ys = [.r b] ∧ b ≠ D ∧ σ' b = some (rowsMO (smallF codes))) ?hclos ?hcell ?hkind ?hnames ?hcl ?hG ?h
    case hclos => (exact (closureFor_cells (by assumption)).trans rfl)
    case hcell => decide +kernel
    case hkind => rfl
    case hnames => decide +kernel
    case hcl => (refine hcl_of fun p hp => ?_; first | exact absurd hp List.not_mem_nil | (simp only [List.mem_cons, List.not_mem_nil, or_false] at hp; first | (rcases hp with rfl | rfl <;> k_extra "cof") | (subst hp; k_extra "cof")))
    case hG =>
      rintro D σ' σ'' p ys E ⟨b, e1, e2, e3⟩
      exact ⟨b, e1, e2, E _ _ (by simpa using e2) e3⟩
    case h =>
      k_extra "w"
      refine ⟨HlcOk.nil, [.r b0, .r b1, .r b2], fun σ' E => E _ _ (by simp) (E1 _ _ (by simp) hbl), by simp, ?_, ?_⟩
      · rintro D i pv σ' C' hD ⟨dl, hd⟩ hx E O' hsc'
        obtain ⟨a, rfl, ha⟩ : ∃ a, pv = .r a ∧ σ a = some (rowsMO (smallF codes)) := by
          rcases i with _ | _ | _ | i
          · exact ⟨b0, (Option.some.inj hx).symm, hb0⟩
          · exact ⟨b1, (Option.some.inj hx).symm, hb1⟩
          · exact ⟨b2, (Option.some.inj hx).symm, hb2⟩
          · simp at hx
        unfold CompTurn
        k_extra "w"
        k_extra "g"
        k_extra "w"
        refine Fn_list (E _ _ (by simp) (E1 _ _ (by simp) ha)) ?_ fun b hb => ?_
        · rw [List.length_map]
          have : (smallF codes).length ≤ 100 := by
            cases codes with
            | nil => simp [smallF]
            | cons k ks => exact hci.len k (.head _)
          lia
        exact ⟨LocLe.nil, Ext.refl.new hb, b, rfl, (ne_of_some hb hd).symm, setH_self⟩
      · intro D σ' yss hD E hd hall2
        cases hall2 with
        | cons g0 t => cases t with
          | cons g1 t => cases t with
            | cons g2 t => cases t with
              | nil =>
                obtain ⟨c0, rfl, _, e0'⟩ := g0
                obtain ⟨c1, rfl, _, e1'⟩ := g1
                obtain ⟨c2, rfl, _, e2'⟩ := g2
                k_extra "w"
                refine ⟨Nat.le_of_ble_eq_true rfl, fun a ha => ?_⟩
                have hdu' := E _ _ (by simp) hdu
                have nn : ∀ xs ∈ [(smallF codes).map Ins.toData, (smallF codes).map Ins.toData, (smallF codes).map Ins.toData], ∀ d ∈ xs, nice 20 d = true := by
                  intro xs hxs
                  simp only [List.mem_cons, List.not_mem_nil, or_false, or_self] at hxs
                  rw [hxs]; exact rows_nice
                refine Op2_eqLL (as := [c0, c1, c2]) (bs := [du, du, du]) (xss := [(smallF codes).map Ins.toData, (smallF codes).map Ins.toData, (smallF codes).map Ins.toData]) (yss := [(smallF codes).map Ins.toData, (smallF codes).map Ins.toData, (smallF codes).map Ins.toData]) O
                  (setH_new ha hd) setH_self
                  (.cons (rows_data (setH_new ha e0')) (.cons (rows_data (setH_new ha e1')) (.cons (rows_data (setH_new ha e2')) .nil)))
                  (.cons (rows_data (setH_new ha hdu')) (.cons (rows_data (setH_new ha hdu')) (.cons (rows_data (setH_new ha hdu')) .nil)))
                  nn nn fun b hb => ?_
                have hbt : b = true := hb.mpr rfl
                rw [hbt]
                exact h1 hlt _ _
  · (with_reducible refine' Eq.mpr (if_neg ?z307n) ?z307h; (case z307n => ((try simp only [decide_eq_true_eq, Option.map_none, Option.isSome_none, Option.map_some, Option.isSome_some, Bool.false_eq_true, not_false_eq_true, List.length_cons, List.length_map, List.length_nil, Bool.not_eq_true]); first | done | lia | assumption)))
    k_extra "w"
    exact h2 (by lia)
end SLg4
section SLg5
variable {w : World} {base : Heap} {mg mb : Str → Option Value}
-- set_option profiler true
-- set_option profiler.threshold 1000
theorem codeAt_key {S T : List Addr} {σ : Hp} {a : Addr} {k k' : Code} (h : CodeAt S σ a k) (h' : CodeAt T σ a k') : k.key = k'.key := by
  obtain ⟨dx, il, f, u, h1, h2, h3, _⟩ := h.at_
  obtain ⟨dx', il', f', u', h1', h2', h3', _⟩ := h'.at_
  rw [h1] at h1'
  cases h1'
  rw [h2] at h2'
  have e := Option.some.inj h2'
  have e2 := MO.ns.inj e
  simp only [List.cons.injEq, Prod.mk.injEq, true_and, and_true, PV.d.injEq] at e2
  exact Key.inj.mp e2.2.1
set_option maxHeartbeats 8000000 in
theorem law_allvar {A : Around} {L : Addr} {env : Env} (O : Cx.Ok ⟨gx w base mg mb, A, inF L, env⟩ 6) (H : LE w L env) {σ : Hp} {y r cs ca bl b0 b1 b2 : Addr} {f W m : Int} {codes : List Code} {Q : AF → Loc → Hp → Prop}
    (C : Codes [] σ cs codes) (h8 : codes.length ≤ 8) (h2 : 2 ≤ codes.length) (hbl : σ bl = some (.list [.r b0, .r b1, .r b2])) (hb0 : σ b0 = some (rowsMO (indexBlockF W codes))) (hb1 : σ b1 = some (rowsMO (chainBlockF W codes)))
    (hz0 : (indexBlockF W codes).length ≤ 100000) (hz1 : (chainBlockF W codes).length ≤ 100000)
    (h : ∀ l σ', LocLe (loc9 r y cs ca bl W f m) l → Ext [] σ σ' → Q .next l σ') :
    Ex1 ⟨gx w base mg mb, A, inF L, env⟩ (stAt w.params 10) (loc9 r y cs ca bl W f m) σ Q := by
  have G := O.toOk
  have hs := H.sc
  conv at hs => lhs; whnf; arg 1; whnf
  have hsc := (Option.some.inj hs).symm
  clear hs
  have hce := H.cells
  conv => arg 2; whnf
  k_extra "w"
  obtain ⟨as, hcs, ncs, hall⟩ := C.at_
  refine Ev_CompG O hsc [] [] (fun D σ' pv ys => ∃ a k, pv = .r a ∧ CodeAt [] σ a k ∧ ys = if k.key = .var then [] else [pv]) ?hclos ?hcell ?hkind ?hnames ?hcl ?hG ?h
  case hclos => (exact (closureFor_cells (by assumption)).trans rfl)
  case hcell => decide +kernel
  case hkind => rfl
  case hnames => decide +kernel
  case hcl => (refine hcl_of fun p hp => ?_; first | exact absurd hp List.not_mem_nil | (simp only [List.mem_cons, List.not_mem_nil, or_false] at hp; first | (rcases hp with rfl | rfl <;> k_extra "cof") | (subst hp; k_extra "cof")))
  case hG => exact fun D σ σ' p ys _ h => h
  case h =>
    k_extra "w"
    refine ⟨HlcOk.nil, as.map .r, fun σ' E => E _ _ (by simp) hcs, by rw [List.length_map, hall.length]; lia, ?_, ?_⟩
    · rintro D i pv σ' C' hD ⟨dl, hd⟩ hx E O' hsc'
      obtain ⟨a, ha, rfl⟩ := map_get hx
      obtain ⟨b, hb, cb⟩ := all2_left hall ha
      obtain ⟨dx, il, f', u, ix, ns, hil, n1, n2, n3⟩ := cb.at_
      have ix' := E _ _ (by simp) ix
      have ns' := E _ _ (by simp) ns
      unfold CompTurn
      k_extra "w"
      (with_reducible refine' Op1_attr ?z310o ?z310ix ?z310ns ?z310lk ?z310hg ?z310hh ?z310ha ?z310h; (case z310o => assumption); (case z310ix => k_extra "sg"); (case z310ns => k_extra "sg"); (case z310lk => k_extra "lk"); (case z310hg => kernel_rfl); (case z310hh => kernel_rfl); (case z310ha => kernel_rfl))
      k_extra "w"
      (first | refine ⟨[_], rfl, Nat.le_of_ble_eq_true rfl, ?_⟩ | refine ⟨[_, _], rfl, Nat.le_of_ble_eq_true rfl, ?_⟩ | refine ⟨[_, _, _], rfl, Nat.le_of_ble_eq_true rfl, ?_⟩ | refine ⟨[_, _, _, _], rfl, Nat.le_of_ble_eq_true rfl, ?_⟩ | refine ⟨[_, _, _, _, _], rfl, Nat.le_of_ble_eq_true rfl, ?_⟩)
      refine Op2_ne O' b.key.nice Key.var.nice fun t ht => ⟨t, rfl, ?_⟩
      have ht' : t = true ↔ b.key ≠ .var := by rw [ht, show PyData.tuple [sv "var"] = Key.var.toData from rfl]; exact not_congr Key.inj
      cases t with
      | true =>
        have hk := ht'.mp rfl
        k_extra "w"
        exact ⟨LocLe.nil, Ext.refl, a, b, rfl, cb, by rw [if_neg hk]⟩
      | false =>
        have hk : b.key = .var := by
          by_cases hk : b.key = .var
          · exact hk
          · exact absurd (ht'.mpr hk) (by decide)
        k_extra "w"
        exact ⟨LocLe.nil, Ext.refl, a, b, rfl, cb, by rw [if_pos hk]⟩
    · intro D σ' yss hD E hd hall2
      k_extra "w"
      refine ⟨Nat.zero_le _, fun e0 he0 => ?_⟩
      have hd' := setH_new (mo := .list []) he0 hd
      by_cases hnil : yss.flatten = []
      · rw [hnil] at hd'
        refine Op2_eqL (xs := []) (ys := []) O hd' setH_self (by simp) (by simp) fun t ht => ⟨t, rfl, ?_⟩
        obtain rfl : t = true := ht.mpr rfl
        k_extra "w"
        have hav : allVar codes = true := by
          unfold allVar
          rw [List.all_eq_true]
          intro k hk
          obtain ⟨i, hi⟩ := List.getElem?_of_mem hk
          obtain ⟨a, ha, ck⟩ := hall.get hi
          obtain ⟨ys, hys, a', k', e1, e2, e3⟩ := all2_left hall2 (i := i) (a := .r a) (by rw [List.getElem?_map, ha]; rfl)
          cases e1
          have hye : ys = [] := List.flatten_eq_nil_iff.mp hnil ys (List.mem_of_getElem? hys)
          rw [hye] at e3
          by_cases hv : k'.key = .var
          · have := codeAt_key ck e2
            rw [this, hv]; rfl
          · rw [if_neg hv] at e3; cases e3
        have eB : indexBlockF W codes = chainBlockF W codes := by rw [indexBlockF, if_neg (by lia), if_pos (.inr hav)]
        rw [eB] at hb0
        have E0 : Ext [] σ (setH σ' e0 (.list [])) := E.new he0
        generalize setH σ' e0 (.list []) = σ1 at *
        k_extra "g"
        k_extra "w"
        refine Op2_idxL (E0 _ _ (by simp) hbl) (by decide) (by decide) (pv := .r b0) rfl ?_
        k_extra "w"
        refine Fn_list (E0 _ _ (by simp) hb0) (by rw [List.length_map, ← eB]; lia) fun c0 hc0 => ?_
        have E1 : Ext [] σ (setH σ1 c0 (rowsMO (chainBlockF W codes))) := E0.new hc0
        have h0 : (setH σ1 c0 (rowsMO (chainBlockF W codes))) c0 = some (rowsMO (chainBlockF W codes)) := setH_self
        show Ev _ _ _ (setH σ1 c0 (rowsMO (chainBlockF W codes))) _
        generalize setH σ1 c0 (rowsMO (chainBlockF W codes)) = σ2 at *
        k_extra "g"
        k_extra "w"
        refine Op2_idxL (E1 _ _ (by simp) hbl) (by decide) (by decide) (pv := .r b1) rfl ?_
        k_extra "w"
        refine Fn_list (E1 _ _ (by simp) hb1) (by rw [List.length_map]; lia) fun c1 hc1 => ?_
        refine Op2_neL O (rows_data (setH_new hc1 h0)) (rows_data (B := chainBlockF W codes) setH_self) rows_nice rows_nice fun t ht => ⟨t, rfl, ?_⟩
        have htf : t = false := by
          cases t with
          | false => rfl
          | true => exact absurd rfl (ht.mp rfl)
        rw [htf]
        k_extra "w"
        exact h _ _ (LocLe.refl _) (E1.new hc1)
      · refine Op2_eqLen O hd' setH_self (fun z => hnil (List.eq_nil_of_length_eq_zero z)) ⟨_, rfl, ?_⟩
        k_extra "w"
        exact h _ _ (LocLe.refl _) (E.new he0)
end SLg5
section SLg6
variable {w : World} {base : Heap} {mg mb : Str → Option Value}
-- set_option profiler true
-- set_option profiler.threshold 1000
theorem label_pos {B : List Ins} {codes : List Code} {i : Nat} (h : BlockOk B codes) (hci : CI codes) (hi : i < codes.length) :
    ∃ j : Nat, B[j]? = some (.label i) ∧ (∀ j', j' < j → B[j']? ≠ some (.label i)) ∧ (B.drop (j + 1)).take 2 = insOf i ∧ j + 3 ≤ B.length := by
  obtain ⟨j, hat⟩ := h.clause i hi
  rw [hci i codes[i] (List.getElem?_eq_getElem hi)] at hat
  have a0 : B[j]? = some (.label i) := by simpa using hat 0 (.label i) rfl
  have a1 : B[j + 1]? = some (.getc 5 i) := hat 1 (.getc 5 i) rfl
  have a2 : B[j + 2]? = some .proceed := hat 2 .proceed rfl
  have l2 := (List.getElem?_eq_some_iff.mp a2).1
  refine ⟨j, a0, ?_, ?_, by lia⟩
  · intro j' hj e
    have hn := h.nodup
    have e1 : B = B.take j ++ B.drop j := (List.take_append_drop j B).symm
    have m1 : (i : Int) ∈ labs (B.take j) := List.mem_filterMap.mpr ⟨.label i, List.mem_iff_getElem?.mpr ⟨j', by rw [List.getElem?_take, if_pos hj]; exact e⟩, rfl⟩
    have m2 : (i : Int) ∈ labs (B.drop j) := List.mem_filterMap.mpr ⟨.label i, List.mem_iff_getElem?.mpr ⟨0, by rw [List.getElem?_drop]; exact a0⟩, rfl⟩
    rw [e1, labs_append, List.nodup_append] at hn
    exact hn.2.2 _ m1 _ m2 rfl
  · refine List.ext_getElem? fun k => ?_
    rw [List.getElem?_take]
    rcases k with _ | _ | k
    · rw [if_pos (by lia), List.getElem?_drop]; exact a1
    · rw [if_pos (by lia), List.getElem?_drop]; exact a2
    · rw [if_neg (by lia)]; rfl
theorem label_inj {r : Ins} {p : Int} (h : r.toData = (Ins.label p).toData) : r = .label p := by
  cases r <;> simp [Ins.toData, sv, ofString_inj] at h ⊢
  exact h
noncomputable abbrev loc11 (r y cs ca bl b rl : Addr) (W f m : Int) : Loc :=
  [(Str.ofString "row", .r r), (Str.ofString "signs", .r y), (Str.ofString "wide", intPV W), (Str.ofString "name", intPV f), (Str.ofString "many", intPV m), (Str.ofString "codes", .r cs), (Str.ofString "calls", .r ca), (Str.ofString "blocks", .r bl), (Str.ofString "block", .r b), (Str.ofString "rows", .r rl)]
set_option maxHeartbeats 8000000 in
theorem law_labels {A : Around} {L : Addr} {env : Env} (O : Cx.Ok ⟨gx w base mg mb, A, inF L, env⟩ 6) (H : LE w L env) {σ : Hp} {y r cs ca bl b0 b1 b2 : Addr} {f W m : Int} {codes : List Code} {Q : AF → Loc → Hp → Prop}
    (C : Codes [] σ cs codes) (hci : CI codes) (hm : codes.length = m.toNat) (hm0 : 0 ≤ m) (hm8 : m < 8) (hbl : σ bl = some (.list [.r b0, .r b1, .r b2]))
    (hB : ∀ b ∈ [b0, b1, b2], ∃ B, σ b = some (rowsMO B) ∧ BlockOk B codes ∧ B.length ≤ 100000)
    (h : ∀ l σ', LocLe (loc9 r y cs ca bl W f m) l → Ext [] σ σ' → Q .next l σ') :
    Ex1 ⟨gx w base mg mb, A, inF L, env⟩ (stAt w.params 11) (loc9 r y cs ca bl W f m) σ Q := by
  have G := O.toOk
  have hs := H.sc
  conv at hs => lhs; whnf; arg 1; whnf
  have hsc := (Option.some.inj hs).symm
  clear hs
  have hce := H.cells
  conv => arg 2; whnf
  obtain ⟨cxs, hcs, hlen, _, hget⟩ := C.get
  ((with_reducible refine' Ex1_For ?z312o ?z312h ?z312s); (case z312o => assumption); (case z312s => (intro _; rfl)))
  k_extra "w"
  obtain ⟨J, hJ⟩ : ∃ J : Nat → Loc → Hp → Prop, ∀ i l σ', J i l σ' ↔ (LocLe (loc9 r y cs ca bl W f m) l ∧ Ext [] σ σ') := ⟨_, fun _ _ _ => Iff.rfl⟩
  refine ⟨[.r b0, .r b1, .r b2], J, (hJ _ _ _).mpr ⟨LocLe.refl _, Ext.refl⟩, fun i l σ' hj => ((hJ _ _ _).mp hj).2 _ _ (by simp) hbl, ?_, ?_⟩
  · intro i l σ' v hv hj
    obtain ⟨hl, E⟩ := (hJ _ _ _).mp hj
    refine Tg.weak hl ?_
    obtain ⟨b, rfl, hb⟩ : ∃ b, v = .r b ∧ b ∈ [b0, b1, b2] := by
      have := List.mem_of_getElem? hv
      simp only [List.mem_cons, List.not_mem_nil, or_false] at this ⊢
      rcases this with rfl | rfl | rfl
      · exact ⟨_, rfl, .inl rfl⟩
      · exact ⟨_, rfl, .inr (.inl rfl)⟩
      · exact ⟨_, rfl, .inr (.inr rfl)⟩
    obtain ⟨B, hBb, hok, hz⟩ := hB b hb
    k_extra "w"
    k_extra "g"
    k_extra "w"
    refine Fn_list (E _ _ (by simp) hBb) (by rw [List.length_map]; lia) fun rl hrl => ?_
    have E1 : Ext [] σ (setH σ' rl (rowsMO B)) := E.new hrl
    have hrl1 : (setH σ' rl (rowsMO B)) rl = some (rowsMO B) := setH_self
    show Ex _ _ _ (setH σ' rl (rowsMO B)) _
    generalize setH σ' rl (rowsMO B) = σ1 at *
    clear hrl
    refine Mine.Ex.weak (l0 := loc11 r y cs ca bl b rl W f m) (by k_extra "lle") ?_
    k_extra "1"
    refine Ex1_cut' (fun l σ' => LocLe (loc11 r y cs ca bl b rl W f m) l ∧ Ext [] σ1 σ') ?_ ?_
    · ((with_reducible refine' Ex1_For ?z313o ?z313h ?z313s); (case z313o => assumption); (case z313s => (intro _; rfl)))
      k_extra "g"
      k_extra "w"
      obtain ⟨J2, hJ2⟩ : ∃ J : Nat → Loc → Hp → Prop, ∀ i l σ', J i l σ' ↔ (LocLe (loc11 r y cs ca bl b rl W f m) l ∧ Ext [] σ1 σ') := ⟨_, fun _ _ _ => Iff.rfl⟩
      refine Fn_range1 ⟨(upto 0 m).map fun i => .d (.int i), J2, (hJ2 _ _ _).mpr ⟨LocLe.refl _, Ext.refl⟩, fun i l σ' hj => items_rng (by lia) (by lia) (by lia) (by lia), ?_, ?_⟩
      · intro p l σ2 v hv hj
        obtain ⟨hl2, E2⟩ := (hJ2 _ _ _).mp hj
        obtain ⟨rfl, hi⟩ := upto_get hv
        rw [Int.zero_add]
        have hp : p < codes.length := by lia
        obtain ⟨j, hj1, hj2, hj3, hj4⟩ := label_pos hok hci hp
        have hrl2 := rows_data (E2 _ _ (by simp) hrl1)
        have hx : nice 20 (Ins.label p).toData = true := Ins.nice _
        have hd1 : (B.map Ins.toData)[j]? = some (Ins.label p).toData := by rw [List.getElem?_map, hj1]; rfl
        refine Tg.weak hl2 ?_
        k_extra "w"
        (first | refine ⟨[_], rfl, Nat.le_of_ble_eq_true rfl, ?_⟩ | refine ⟨[_, _], rfl, Nat.le_of_ble_eq_true rfl, ?_⟩ | refine ⟨[_, _, _], rfl, Nat.le_of_ble_eq_true rfl, ?_⟩ | refine ⟨[_, _, _, _], rfl, Nat.le_of_ble_eq_true rfl, ?_⟩ | refine ⟨[_, _, _, _, _], rfl, Nat.le_of_ble_eq_true rfl, ?_⟩)
        k_extra "w"
        refine Op2_notin O hrl2 hx rows_nice fun t ht => ⟨t, rfl, ?_⟩
        have htf : t = false := by
          cases t with
          | false => rfl
          | true => exact absurd (List.mem_of_getElem? hd1) (ht.mp rfl)
        rw [htf]
        k_extra "w"
        ((with_reducible refine' k_CallMB (id := "list.index") ?z315o ?z315h ?z315e ?z315p); (case z315o => assumption); (case z315e => rfl); (case z315p => kernel_rfl))
        k_extra "w"
        refine ⟨gm_list hrl2 PySem.F.slot_list_index PySem.F.type_list_index, ?_⟩
        k_extra "w"
        (first | refine ⟨[_], rfl, Nat.le_of_ble_eq_true rfl, ?_⟩ | refine ⟨[_, _], rfl, Nat.le_of_ble_eq_true rfl, ?_⟩ | refine ⟨[_, _, _], rfl, Nat.le_of_ble_eq_true rfl, ?_⟩ | refine ⟨[_, _, _, _], rfl, Nat.le_of_ble_eq_true rfl, ?_⟩ | refine ⟨[_, _, _, _, _], rfl, Nat.le_of_ble_eq_true rfl, ?_⟩)
        k_extra "w"
        refine Fn_index hrl2 (by rw [List.length_map]; lia) hx rows_nice hd1 (fun i' hi' e => ?_) ?_
        · rw [List.getElem?_map] at e
          cases q : B[i']? with
          | none => rw [q] at e; cases e
          | some r' =>
            rw [q] at e
            have := label_inj (Option.some.inj e)
            rw [this] at q
            exact hj2 i' hi' q
        show Ex _ _ _ _ _
        k_extra "1"
        k_extra "1"
        k_extra "1"
        refine Ev_Slice O ?_
        k_extra "w"
        refine ⟨rl, (B.map Ins.toData).map .d, (j : Int) + 1, (j : Int) + 3, rfl, rfl, rfl, by lia, by lia, by rw [List.length_map, List.length_map]; lia, listAt_σ hrl2, by rw [List.length_map, List.length_map]; lia, fun sl hsl => ?_⟩
        have hsl1 : MO.list ((((B.map Ins.toData).map PV.d).drop ((j : Int) + 1).toNat).take (((j : Int) + 3).toNat - ((j : Int) + 1).toNat)) = .list (((insOf p).map Ins.toData).map .d) := by
          rw [show ((j : Int) + 1).toNat = j + 1 by lia, show ((j : Int) + 3).toNat - (j + 1) = 2 by lia, ← List.map_drop, ← List.map_take, ← List.map_drop, ← List.map_take, hj3]
        rw [hsl1]
        have E3 : Ext [] σ1 (setH σ2 sl (.list (((insOf p).map Ins.toData).map .d))) := E2.new hsl
        have hsl2 : (setH σ2 sl (.list (((insOf p).map Ins.toData).map .d))) sl = some (.list (((insOf p).map Ins.toData).map .d)) := setH_self
        generalize setH σ2 sl (.list (((insOf p).map Ins.toData).map .d)) = σ3 at *
        obtain ⟨a, ha, ck⟩ := hget (i := p) (k := codes[p]) (List.getElem?_eq_getElem hp)
        have ck3 := (ck.ext E1 (by simp)).ext E3 (by simp)
        obtain ⟨dx, il, f', u, ix, ns, hil, n1, n2, n3⟩ := ck3.at_
        k_extra "w"
        refine Op2_idxL (E3 _ _ (by simp) (E1 _ _ (by simp) hcs)) (by lia) (by lia) (pv := .r a) (by rw [Int.toNat_natCast]; exact ha) ?_
        k_extra "w"
        (with_reducible refine' Op1_attr ?z317o ?z317ix ?z317ns ?z317lk ?z317hg ?z317hh ?z317ha ?z317h; (case z317o => assumption); (case z317ix => k_extra "sg"); (case z317ns => k_extra "sg"); (case z317lk => k_extra "lk"); (case z317hg => kernel_rfl); (case z317hh => kernel_rfl); (case z317ha => kernel_rfl))
        rw [hci p codes[p] (List.getElem?_eq_getElem hp)] at hil
        refine Op2_neL O hsl2 (rows_data hil) rows_nice rows_nice fun t' ht' => ⟨t', rfl, ?_⟩
        have htf' : t' = false := by
          cases t' with
          | false => rfl
          | true => exact absurd rfl (ht'.mp rfl)
        rw [htf']
        k_extra "w"
        exact (hJ2 _ _ _).mpr ⟨by k_extra "lle", E3⟩
      · intro l σ2 hj
        exact (hJ2 _ _ _).mp hj
    rintro l σ2 ⟨hl2, E2⟩
    refine Mine.Ex.weak hl2 ?_
    k_extra "w"
    exact (hJ _ _ _).mpr ⟨by k_extra "lle", E1.trans E2⟩
  · intro l σ' hj
    obtain ⟨hl, E⟩ := (hJ _ _ _).mp hj
    exact h l σ' hl E
end SLg6
section SLg7
variable {w : World} {base : Heap} {mg mb : Str → Option Value}
-- set_option profiler true
-- set_option profiler.threshold 1000
theorem marks_map (d : Nat) (vs : List Int) (hn : vs.Nodup) : marks d vs = vs.map fun p => (p, if p = vs.getLastD 0 then (d : Int) else ((d + 1 : Nat) : Int)) := by
  rcases List.eq_nil_or_concat vs with rfl | ⟨ys, z, rfl⟩
  · rfl
  rw [List.concat_eq_append] at hn ⊢
  have hl : (ys ++ [z]).getLastD 0 = z := by rw [List.getLastD_eq_getLast?, List.getLast?_concat]; rfl
  rw [marks_concat, hl, List.map_append]
  congr 1
  · refine List.map_congr_left fun y hy => ?_
    rw [List.nodup_append] at hn
    rw [if_neg (hn.2.2 y hy z (.head _))]
  · simp
noncomputable def funD (q : Int × Int) : PyData := .tuple [.int q.1, .int q.2]
theorem fun_data {σ : Hp} {a : Addr} {q : List (Int × Int)} (h : σ a = some (.list (q.map funPV))) : σ a = some (.list ((q.map funD).map .d)) := by rw [h, List.map_map]; rfl
theorem fun_nice {q : List (Int × Int)} : ∀ d ∈ q.map funD, nice 20 d = true := fun d hd => by
  obtain ⟨x, _, rfl⟩ := List.mem_map.mp hd
  rfl
theorem int_data {σ : Hp} {a : Addr} {q : List Int} (h : σ a = some (iL q)) : σ a = some (.list ((q.map PyData.int).map .d)) := by rw [h, List.map_map]; rfl
theorem int_nice {q : List Int} : ∀ d ∈ q.map PyData.int, nice 20 d = true := fun d hd => by
  obtain ⟨x, _, rfl⟩ := List.mem_map.mp hd
  rfl
theorem all2_ints {f : Int → List PV} : ∀ {xs : List Int} {yss : List (List PV)}, All2 (fun pv ys => ∃ p : Int, pv = intPV p ∧ ys = f p) (xs.map intPV) yss → yss.flatten = xs.flatMap f
  | [], _, h => by cases h; rfl
  | x :: xs, _, h => by
    cases h with
    | cons a t =>
      obtain ⟨p, e1, e2⟩ := a
      cases e1
      rw [List.flatten_cons, List.flatMap_cons, e2, all2_ints t]
theorem flatMap_filter {P : Int → Bool} : ∀ {xs : List Int}, (xs.flatMap fun p => if P p then [intPV p] else []) = (xs.filter P).map intPV
  | [] => rfl
  | x :: xs => by
    rw [List.flatMap_cons, flatMap_filter]
    by_cases h : P x = true
    · rw [List.filter_cons_of_pos h, if_pos h]; rfl
    · rw [List.filter_cons_of_neg h, if_neg h]; rfl
theorem all2_pairs {f : Int × Int → List PV} : ∀ {xs : List (Int × Int)} {yss : List (List PV)}, All2 (fun pv ys => ∃ p : Int × Int, pv = funPV p ∧ ys = f p) (xs.map funPV) yss → yss.flatten = xs.flatMap f
  | [], _, h => by cases h; rfl
  | x :: xs, _, h => by
    cases h with
    | cons a t =>
      obtain ⟨p, e1, e2⟩ := a
      have : x = p := by
        simp only [funPV, PV.d.injEq, PyData.tuple.injEq, List.cons.injEq, PyData.int.injEq, and_true] at e1
        exact Prod.ext e1.1 e1.2
      subst this
      rw [List.flatten_cons, List.flatMap_cons, e2, all2_pairs t]
theorem flatMap_filter2 {P : Int → Bool} : ∀ {xs : List (Int × Int)}, (xs.flatMap fun p => if P p.1 then [intPV p.1] else []) = ((xs.map (·.1)).filter P).map intPV
  | [] => rfl
  | x :: xs => by
    rw [List.flatMap_cons, flatMap_filter2, List.map_cons]
    by_cases h : P x.1 = true
    · rw [List.filter_cons_of_pos h, if_pos h]; rfl
    · rw [List.filter_cons_of_neg h, if_neg h]; rfl
theorem hcl1 {cells : List (Str × Addr)} {x : Str} {a : Addr} (h : cells.lookup x = some a) : ∀ y b, [(x, a)].lookup y = some b → cells.lookup y = some b :=
  hcl_of fun p hp => by rw [List.mem_singleton.mp hp]; exact h
theorem hcl2 {cells : List (Str × Addr)} {x x' : Str} {a a' : Addr} (h : cells.lookup x = some a) (h' : cells.lookup x' = some a') : ∀ y b, [(x, a), (x', a')].lookup y = some b → cells.lookup y = some b :=
  hcl_of fun p hp => by
    rcases List.mem_cons.mp hp with z | z
    · rw [z]; exact h
    · rw [List.mem_singleton.mp z]; exact h'
theorem flatMap_one {α β : Type} {g : α → β} : ∀ {xs : List α}, (xs.flatMap fun p => [g p]) = xs.map g
  | [] => rfl
  | x :: xs => by rw [List.flatMap_cons, flatMap_one]; rfl
theorem runF_len {L : List Ins} {m W : Int} {k : Key} {out : List (Int × Int)} : ∀ (n : Nat) (s : VS), runF L m W k n s = some out → out.length ≤ s.found.length + n
  | 0, s, h => by cases h
  | n + 1, s, h => by
    have aft : ∀ {left : List Int} {found : List (Int × Int)}, afterF (runF L m W k n) left found = some out → out.length ≤ found.length + n := fun {left found} e => by
      rcases after_inv e with ⟨_, rfl⟩ | ⟨ls, a, _, e⟩
      · lia
      · exact runF_len n _ e
    obtain ⟨r, h0, hr, hc⟩ := turn_inv (run := runF L m W k n) h
    rcases hc with ⟨c, _, _, _, e⟩ | ⟨c, _, _, e⟩ | ⟨_, lf, _, ⟨_, a, _, e⟩ | ⟨_, e⟩⟩
    · have := aft e
      simp only [List.length_append, List.length_cons, List.length_nil] at this
      lia
    · have := runF_len n _ e
      simp only at this; lia
    · have := runF_len n _ e
      simp only at this; lia
    · have := aft e
      lia
theorem upto_nodup (m : Int) : (upto 0 m).Nodup := by
  unfold upto
  refine List.Pairwise.map _ ?_ List.nodup_range
  intro a b h z
  exact h (by lia)
theorem upto_last {m : Int} (h : 0 < m) : (upto 0 m).getLastD 0 = m - 1 := by
  obtain ⟨n, rfl⟩ : ∃ n : Nat, m = (n : Int) + 1 := ⟨(m - 1).toNat, by lia⟩
  unfold upto
  rw [show (((n : Int) + 1) - 0).toNat = n + 1 by lia, List.range_succ, List.map_append]
  simp
end SLg7
section SLg8
variable {w : World} {base : Heap} {mg mb : Str → Option Value}
-- set_option profiler true
-- set_option profiler.threshold 1000
noncomputable abbrev locK (r y cs ca bl du : Addr) (W f m : Int) (k : Key) : Loc :=
  [(Str.ofString "row", .r r), (Str.ofString "signs", .r y), (Str.ofString "wide", intPV W), (Str.ofString "name", intPV f), (Str.ofString "many", intPV m), (Str.ofString "codes", .r cs), (Str.ofString "calls", .r ca), (Str.ofString "blocks", .r bl), (Str.ofString "key", keyPV k), (Str.ofString "due", .r du)]
structure BlkAt (σ : Hp) (b : Addr) (B : List Ins) (codes : List Code) : Prop where
  at_ : σ b = some (rowsMO B)
  ok : BlockOk B codes
  len : B.length ≤ 100000
set_option maxHeartbeats 16000000 in
theorem law_keys {A : Around} {L : Addr} {env : Env} (O : Cx.Ok ⟨gx w base mg mb, A, inF L, env⟩ 6) (H : LE w L env) {σ : Hp} {y r cs ca bl b0 b1 b2 : Addr} {f W m : Int} {codes : List Code} {B0 B1 B2 : List Ins} {ks : List Key} {Q : AF → Loc → Hp → Prop}
    (C : Codes [] σ cs codes) (hm : (codes.length : Int) = m) (hm2 : 2 ≤ m) (hm8 : m < 8) (hbl : σ bl = some (.list [.r b0, .r b1, .r b2])) (hca : σ ca = some (.list (ks.map keyPV)))
    (K0 : BlkAt σ b0 B0 codes) (K1 : BlkAt σ b1 B1 codes) (K2 : BlkAt σ b2 B2 codes)
    (R0 : ∀ k, runF B0 m W k 200 ⟨0, [], []⟩ = some (marks 0 (matchPlaces codes (upto 0 m) k))) (R1 : ∀ k, runF B1 m W k 200 ⟨0, [], []⟩ = some (marks 0 (upto 0 m)))
    (R2 : ∀ k, ∃ out, runF B2 m W k 200 ⟨0, [], []⟩ = some out ∧ (out.map (·.1)).filter (fun p => decide (p ∈ matchPlaces codes (upto 0 m) k)) = matchPlaces codes (upto 0 m) k)
    (h : ∀ l σ', LocLe (loc9 r y cs ca bl W f m) l → Ext [] σ σ' → Q .next l σ') :
    Ex1 ⟨gx w base mg mb, A, inF L, env⟩ (stAt w.params 12) (loc9 r y cs ca bl W f m) σ Q := by
  have G := O.toOk
  have hs := H.sc
  conv at hs => lhs; whnf; arg 1; whnf
  have hsc := (Option.some.inj hs).symm
  clear hs
  have hce := H.cells
  conv => arg 2; whnf
  obtain ⟨cxs, hcs, hlen, _, hget⟩ := C.get
  ((with_reducible refine' Ex1_For ?z318o ?z318h ?z318s); (case z318o => assumption); (case z318s => (intro _; rfl)))
  k_extra "w"
  obtain ⟨J, hJ⟩ : ∃ J : Nat → Loc → Hp → Prop, ∀ i l σ', J i l σ' ↔ (LocLe (loc9 r y cs ca bl W f m) l ∧ Ext [] σ σ') := ⟨_, fun _ _ _ => Iff.rfl⟩
  refine ⟨ks.map keyPV, J, (hJ _ _ _).mpr ⟨LocLe.refl _, Ext.refl⟩, fun i l σ' hj => ((hJ _ _ _).mp hj).2 _ _ (by simp) hca, ?_, ?_⟩
  case _ =>
    intro i l σ0 v hv hj
    obtain ⟨hl, E0⟩ := (hJ _ _ _).mp hj
    refine Tg.weak hl ?_
    obtain ⟨k, hk, rfl⟩ := map_get hv
    clear hv hk hj hl l
    obtain ⟨dl, hdl⟩ : ∃ dl, dl = matchPlaces codes (upto 0 m) k := ⟨_, rfl⟩
    have r0 := R0 k
    have r1 := R1 k
    obtain ⟨out, r2, r2'⟩ := R2 k
    rw [← hdl] at r0 r2'
    have hdn : dl.Nodup := by rw [hdl]; exact (upto_nodup m).filter _
    have hdz : dl.length ≤ 8 := by
      rw [hdl]
      have h1 : (matchPlaces codes (upto 0 m) k).length ≤ (upto 0 m).length := List.length_filter_le _ _
      rw [upto_length] at h1; lia
    k_extra "1"
    k_extra "1"
    refine Ex1_cut' (fun l σ' => ∃ du, LocLe (locK r y cs ca bl du W f m k) l ∧ Ext [] σ σ' ∧ σ' du = some (iL dl)) ?_ ?_
    · refine Ex1_AssignC O ?h (by k_extra "kd") (cells_of (by assumption) rfl) (by k_extra "inf") (swaps_cell (by k_extra "kd"))
      case h =>
        refine Ev_CompG O hsc [(Str.ofString "key", L + 1 + 1 + 1 + 1), (Str.ofString "codes", L + 1 + 1)] [(Str.ofString "codes", .r cs), (Str.ofString "key", keyPV k)] (fun D σ' pv ys => ∃ p : Int, pv = intPV p ∧ ys = if matchK (keyAt codes p) k then [intPV p] else []) ?hclos ?hcell ?hkind ?hnames ?hcl ?hG ?h
        case hclos => (exact (closureFor_cells (by assumption)).trans rfl)
        case hcell => decide +kernel
        case hkind => rfl
        case hnames => decide +kernel
        case hcl => exact hcl2 (cells_of hce rfl) (cells_of hce rfl)
        case hG => exact fun D σ σ' p ys _ h => h
        case h =>
          k_extra "g"
          k_extra "w"
          refine Fn_range1 ⟨?hlc, (upto 0 m).map intPV, fun σ' E => items_rng (by lia) (by lia) (by lia) (by lia), by rw [List.length_map, upto_length]; lia, ?turn, ?hend⟩
          case hlc => (repeat' (first | exact HlcOk.nil | (refine HlcOk.cons (by assumption) (by k_extra "lk") rfl rfl rfl ?_)))
          case turn =>
            rintro D i pv σ' C' hD ⟨dd, hd⟩ hx E O' hsc'
            obtain ⟨rfl, hi⟩ := upto_get hx
            rw [Int.zero_add]
            have hp : i < codes.length := by lia
            obtain ⟨a, ha, ck⟩ := hget (i := i) (k := codes[i]) (List.getElem?_eq_getElem hp)
            have ck' := (ck.ext E0 (by simp)).ext E (by simp)
            obtain ⟨dx, il, f', u, ix, ns, hil, n1, n2, n3⟩ := ck'.at_
            unfold CompTurn
            k_extra "w"
            ((with_reducible refine' k_plain ?z321h ?z321e); (case z321e => rfl))
            k_extra "g"
            k_extra "w"
            refine Op2_idxL (E _ _ (by simp) (E0 _ _ (by simp) hcs)) (by lia) (by lia) (pv := .r a) (by rw [Int.toNat_natCast]; exact ha) ?_
            k_extra "w"
            (with_reducible refine' Op1_attr ?z322o ?z322ix ?z322ns ?z322lk ?z322hg ?z322hh ?z322ha ?z322h; (case z322o => assumption); (case z322ix => k_extra "sg"); (case z322ns => k_extra "sg"); (case z322lk => k_extra "lk"); (case z322hg => kernel_rfl); (case z322hh => kernel_rfl); (case z322ha => kernel_rfl))
            k_extra "w"
            refine ((F_matches G ?_).fn).up (by decide)
            have hka : keyAt codes (i : Int) = codes[i].key := by simp [keyAt, hp]
            refine ⟨_, rfl, ?_⟩
            cases hmk : matchK codes[i].key k with
            | true =>
              k_extra "w"
              exact ⟨by k_extra "lle", Ext.refl, i, rfl, by rw [hka, hmk]; rfl⟩
            | false =>
              k_extra "w"
              exact ⟨by k_extra "lle", Ext.refl, i, rfl, by rw [hka, hmk]; rfl⟩
          case hend =>
            intro D σ' yss hD E hd hall2
            rw [all2_ints hall2, flatMap_filter] at hd
            exact ⟨D, by k_extra "lle", E0.trans E, by rw [hd, hdl]; rfl⟩
    rintro l σ1 ⟨du, hl, E1, hdu⟩
    refine Mine.Ex.weak hl ?_
    clear hl l E0 σ0
    k_extra "1"
    refine Ex1_cut' (fun l σ' => ∃ t0, LocLe (setL (Str.ofString "told") (.r t0) (locK r y cs ca bl du W f m k)) l ∧ Ext [] σ1 σ' ∧ σ' t0 = some (.list ((marks 0 dl).map funPV))) ?_ ?_
    · k_extra "1"
      k_extra "g"
      k_extra "w"
      refine Op2_idxL (E1 _ _ (by simp) hbl) (by decide) (by decide) (pv := .r b0) rfl ?_
      k_extra "w"
      refine ((F_visits G (E1 _ _ (by simp) K0.at_) K0.len (by rw [labelsOf_fst]; exact K0.ok.nodup) r0 fun t0 σ' hn ht E => ?_).fn).up (by decide)
      exact ⟨t0, LocLe.refl _, E, ht⟩
    rintro l σ2 ⟨t0, hl, E2, ht0⟩
    refine Mine.Ex.weak hl ?_
    clear hl l
    k_extra "1"
    refine Ex1_cut' (fun l σ' => LocLe (locK r y cs ca bl du W f m k) l ∧ Ext [] σ2 σ') ?_ ?_
    · k_extra "1"
      k_extra "1"
      k_extra "1"
      have hdu2 := E2 _ _ (by simp) hdu
      refine Ev_CompG O hsc [(Str.ofString "due", L + 1 + 1 + 1)] [(Str.ofString "due", .r du)] (fun D σ' pv ys => ∃ p : Int, pv = intPV p ∧ ys = [funPV (p, if p = dl.getLastD 0 then 0 else 1)]) ?hclos ?hcell ?hkind ?hnames ?hcl ?hG ?h
      case hclos => (exact (closureFor_cells (by assumption)).trans rfl)
      case hcell => decide +kernel
      case hkind => rfl
      case hnames => decide +kernel
      case hcl => exact hcl1 (cells_of hce rfl)
      case hG => exact fun D σ σ' p ys _ h => h
      case h =>
        k_extra "w"
        refine ⟨?hlc, dl.map intPV, fun σ' E => E _ _ (by simp) hdu2, by rw [List.length_map]; lia, ?turn, ?hend⟩
        case hlc => (repeat' (first | exact HlcOk.nil | (refine HlcOk.cons (by assumption) (by k_extra "lk") rfl rfl rfl ?_)))
        case turn =>
          rintro D i pv σ' C' hD ⟨dd, hd⟩ hx E O' hsc'
          obtain ⟨p, hp, rfl⟩ := map_get hx
          have hne : dl ≠ [] := fun z => by rw [z] at hp; cases hp
          have hpos : 0 < dl.length := List.length_pos_iff.mpr hne
          unfold CompTurn
          k_extra "w"
          refine Op2_idxLneg (E _ _ (by simp) hdu2) (by decide) (by rw [List.length_map]; lia) (by decide) (pv := intPV (dl.getLastD 0)) ?_ ?_
          · rw [List.length_map, show (-1 + (dl.length : Int)).toNat = dl.length - 1 by lia, List.getElem?_map, ← List.getLast?_eq_getElem?, List.getLastD_eq_getLast?]
            cases q : dl.getLast? with
            | none => exact absurd (List.getLast?_eq_none_iff.mp q) hne
            | some z => rfl
          k_extra "w"
          by_cases hpl : p = dl.getLastD 0
          · (with_reducible refine' Eq.mpr (if_pos ?z325n) ?z325h; (case z325n => ((try simp only [decide_eq_true_eq, Option.map_none, Option.isSome_none, Option.map_some, Option.isSome_some, Bool.false_eq_true, not_false_eq_true, List.length_cons, List.length_map, List.length_nil, Bool.not_eq_true]); first | done | lia | assumption)))
            k_extra "w"
            (first | refine ⟨[_], rfl, Nat.le_of_ble_eq_true rfl, ?_⟩ | refine ⟨[_, _], rfl, Nat.le_of_ble_eq_true rfl, ?_⟩ | refine ⟨[_, _, _], rfl, Nat.le_of_ble_eq_true rfl, ?_⟩ | refine ⟨[_, _, _, _], rfl, Nat.le_of_ble_eq_true rfl, ?_⟩ | refine ⟨[_, _, _, _, _], rfl, Nat.le_of_ble_eq_true rfl, ?_⟩)
            exact ⟨by k_extra "lle", Ext.refl, p, rfl, by rw [if_pos hpl]; rfl⟩
          · (with_reducible refine' Eq.mpr (if_neg ?z327n) ?z327h; (case z327n => ((try simp only [decide_eq_true_eq, Option.map_none, Option.isSome_none, Option.map_some, Option.isSome_some, Bool.false_eq_true, not_false_eq_true, List.length_cons, List.length_map, List.length_nil, Bool.not_eq_true]); first | done | lia | assumption)))
            k_extra "w"
            (first | refine ⟨[_], rfl, Nat.le_of_ble_eq_true rfl, ?_⟩ | refine ⟨[_, _], rfl, Nat.le_of_ble_eq_true rfl, ?_⟩ | refine ⟨[_, _, _], rfl, Nat.le_of_ble_eq_true rfl, ?_⟩ | refine ⟨[_, _, _, _], rfl, Nat.le_of_ble_eq_true rfl, ?_⟩ | refine ⟨[_, _, _, _, _], rfl, Nat.le_of_ble_eq_true rfl, ?_⟩)
            exact ⟨by k_extra "lle", Ext.refl, p, rfl, by rw [if_neg hpl]; rfl⟩
        case hend =>
          intro D σ' yss hD E hd hall2
          rw [all2_ints hall2, flatMap_one] at hd
          have hmk : marks 0 dl = dl.map fun p => (p, if p = dl.getLastD 0 then 0 else 1) := by rw [marks_map 0 dl hdn]; rfl
          have hd' : σ' D = some (.list ((marks 0 dl).map funPV)) := by rw [hd, hmk, List.map_map]; rfl
          refine Op2_neL O (fun_data (E _ _ (by simp) ht0)) (fun_data hd') fun_nice fun_nice fun t' ht' => ⟨t', rfl, ?_⟩
          have htf' : t' = false := by
            cases t' with
            | false => rfl
            | true => exact absurd rfl (ht'.mp rfl)
          rw [htf']
          k_extra "w"
          exact ⟨by k_extra "lle", E⟩
    rintro l σ3 ⟨hl, E3⟩
    refine Mine.Ex.weak hl ?_
    clear hl l
    have E03 := (E1.trans E2).trans E3
    have hdu3 := E3 _ _ (by simp) (E2 _ _ (by simp) hdu)
    clear E1 E2 E3 hdu ht0 
    k_extra "1"
    refine Ex1_cut' (fun l σ' => ∃ t0, LocLe (setL (Str.ofString "told") (.r t0) (locK r y cs ca bl du W f m k)) l ∧ Ext [] σ3 σ' ∧ σ' t0 = some (.list ((marks 0 (upto 0 m)).map funPV))) ?_ ?_
    · k_extra "1"
      k_extra "g"
      k_extra "w"
      refine Op2_idxL (E03 _ _ (by simp) hbl) (by decide) (by decide) (pv := .r b1) rfl ?_
      k_extra "w"
      refine ((F_visits G (E03 _ _ (by simp) K1.at_) K1.len (by rw [labelsOf_fst]; exact K1.ok.nodup) r1 fun t0 σ' hn ht E => ?_).fn).up (by decide)
      exact ⟨t0, LocLe.refl _, E, ht⟩
    rintro l σ4 ⟨t1, hl, E4, ht1⟩
    refine Mine.Ex.weak hl ?_
    clear hl l
    k_extra "1"
    refine Ex1_cut' (fun l σ' => LocLe (locK r y cs ca bl du W f m k) l ∧ Ext [] σ4 σ') ?_ ?_
    · k_extra "1"
      k_extra "1"
      k_extra "1"
      refine Ev_CompG O hsc [(Str.ofString "many", L + 1)] [(Str.ofString "many", intPV m)] (fun D σ' pv ys => ∃ p : Int, pv = intPV p ∧ ys = [funPV (p, if p = m - 1 then 0 else 1)]) ?hclos ?hcell ?hkind ?hnames ?hcl ?hG ?h
      case hclos => (exact (closureFor_cells (by assumption)).trans rfl)
      case hcell => decide +kernel
      case hkind => rfl
      case hnames => decide +kernel
      case hcl => exact hcl1 (cells_of hce rfl)
      case hG => exact fun D σ σ' p ys _ h => h
      case h =>
        k_extra "g"
        k_extra "w"
        refine Fn_range1 ⟨?hlc, (upto 0 m).map intPV, fun σ' E => items_rng (by lia) (by lia) (by lia) (by lia), by rw [List.length_map, upto_length]; lia, ?turn, ?hend⟩
        case hlc => (repeat' (first | exact HlcOk.nil | (refine HlcOk.cons (by assumption) (by k_extra "lk") rfl rfl rfl ?_)))
        case turn =>
          rintro D i pv σ' C' hD ⟨dd, hd⟩ hx E O' hsc'
          obtain ⟨p, hp, rfl⟩ := map_get hx
          unfold CompTurn
          k_extra "w"
          by_cases hpl : p = m - 1
          · (with_reducible refine' Eq.mpr (if_pos ?z331n) ?z331h; (case z331n => ((try simp only [decide_eq_true_eq, Option.map_none, Option.isSome_none, Option.map_some, Option.isSome_some, Bool.false_eq_true, not_false_eq_true, List.length_cons, List.length_map, List.length_nil, Bool.not_eq_true]); first | done | lia | assumption)))
            k_extra "w"
            (first | refine ⟨[_], rfl, Nat.le_of_ble_eq_true rfl, ?_⟩ | refine ⟨[_, _], rfl, Nat.le_of_ble_eq_true rfl, ?_⟩ | refine ⟨[_, _, _], rfl, Nat.le_of_ble_eq_true rfl, ?_⟩ | refine ⟨[_, _, _, _], rfl, Nat.le_of_ble_eq_true rfl, ?_⟩ | refine ⟨[_, _, _, _, _], rfl, Nat.le_of_ble_eq_true rfl, ?_⟩)
            exact ⟨by k_extra "lle", Ext.refl, p, rfl, by rw [if_pos hpl]; rfl⟩
          · (with_reducible refine' Eq.mpr (if_neg ?z333n) ?z333h; (case z333n => ((try simp only [decide_eq_true_eq, Option.map_none, Option.isSome_none, Option.map_some, Option.isSome_some, Bool.false_eq_true, not_false_eq_true, List.length_cons, List.length_map, List.length_nil, Bool.not_eq_true]); first | done | lia | assumption)))
            k_extra "w"
            (first | refine ⟨[_], rfl, Nat.le_of_ble_eq_true rfl, ?_⟩ | refine ⟨[_, _], rfl, Nat.le_of_ble_eq_true rfl, ?_⟩ | refine ⟨[_, _, _], rfl, Nat.le_of_ble_eq_true rfl, ?_⟩ | refine ⟨[_, _, _, _], rfl, Nat.le_of_ble_eq_true rfl, ?_⟩ | refine ⟨[_, _, _, _, _], rfl, Nat.le_of_ble_eq_true rfl, ?_⟩)
            exact ⟨by k_extra "lle", Ext.refl, p, rfl, by rw [if_neg hpl]; rfl⟩
        case hend =>
          intro D σ' yss hD E hd hall2
          rw [all2_ints hall2, flatMap_one] at hd
          have hmk : marks 0 (upto 0 m) = (upto 0 m).map fun p => (p, if p = m - 1 then 0 else 1) := by rw [marks_map 0 _ (upto_nodup m), upto_last (by lia)]; rfl
          have hd' : σ' D = some (.list ((marks 0 (upto 0 m)).map funPV)) := by rw [hd, hmk, List.map_map]; rfl
          refine Op2_neL O (fun_data (E _ _ (by simp) ht1)) (fun_data hd') fun_nice fun_nice fun t' ht' => ⟨t', rfl, ?_⟩
          have htf' : t' = false := by
            cases t' with
            | false => rfl
            | true => exact absurd rfl (ht'.mp rfl)
          rw [htf']
          k_extra "w"
          exact ⟨by k_extra "lle", E⟩
    rintro l σ5 ⟨hl, E5⟩
    refine Mine.Ex.weak hl ?_
    clear hl l
    have E05 := (E03.trans E4).trans E5
    have hdu5 := E5 _ _ (by simp) (E4 _ _ (by simp) hdu3)
    clear E03 E4 E5 hdu3 ht1
    k_extra "1"
    refine Ex1_cut' (fun l σ' => ∃ t0, LocLe (setL (Str.ofString "told") (.r t0) (locK r y cs ca bl du W f m k)) l ∧ Ext [] σ5 σ' ∧ σ' t0 = some (.list (out.map funPV))) ?_ ?_
    · k_extra "1"
      k_extra "g"
      k_extra "w"
      refine Op2_idxL (E05 _ _ (by simp) hbl) (by decide) (by decide) (pv := .r b2) rfl ?_
      k_extra "w"
      refine ((F_visits G (E05 _ _ (by simp) K2.at_) K2.len (by rw [labelsOf_fst]; exact K2.ok.nodup) r2 fun t0 σ' hn ht E => ?_).fn).up (by decide)
      exact ⟨t0, LocLe.refl _, E, ht⟩
    rintro l σ6 ⟨t2, hl, E6, ht2⟩
    refine Mine.Ex.weak hl ?_
    clear hl l
    have hdu6 := E6 _ _ (by simp) hdu5
    k_extra "w"
    refine Op2_isNone ⟨false, rfl, ?_⟩
    k_extra "w"
    refine Ev_CompG O hsc [(Str.ofString "due", L + 1 + 1 + 1)] [(Str.ofString "due", .r du)] (fun D σ' pv ys => ∃ p : Int × Int, pv = funPV p ∧ ys = if decide (p.1 ∈ dl) = true then [intPV p.1] else []) ?hclos ?hcell ?hkind ?hnames ?hcl ?hG ?h
    case hclos => (exact (closureFor_cells (by assumption)).trans rfl)
    case hcell => decide +kernel
    case hkind => rfl
    case hnames => decide +kernel
    case hcl => exact hcl1 (cells_of hce rfl)
    case hG => exact fun D σ σ' p ys _ h => h
    case h =>
      k_extra "w"
      refine ⟨?hlc, out.map funPV, fun σ' E => E _ _ (by simp) ht2, by rw [List.length_map]; have := runF_len _ _ r2; simp only [List.length_nil] at this; lia, ?turn, ?hend⟩
      case hlc => (repeat' (first | exact HlcOk.nil | (refine HlcOk.cons (by assumption) (by k_extra "lk") rfl rfl rfl ?_)))
      case turn =>
        rintro D i pv σ' C' hD ⟨dd, hd⟩ hx E O' hsc'
        obtain ⟨p, hp, rfl⟩ := map_get hx
        unfold CompTurn
        refine Tg_pair (d := .int p.1) (e := .int p.2) O' (by k_extra "kd") (by k_extra "kd") ?_
        k_extra "w"
        refine Op2_in O' (int_data (E _ _ (by simp) hdu6)) rfl int_nice fun t ht => ⟨t, rfl, ?_⟩
        have ht' : t = decide (p.1 ∈ dl) := by
          rw [Bool.eq_iff_iff, ht, decide_eq_true_eq]
          simp
        cases t with
        | true =>
          k_extra "w"
          exact ⟨by k_extra "lle", Ext.refl, p, rfl, by rw [← ht']; rfl⟩
        | false =>
          k_extra "w"
          exact ⟨by k_extra "lle", Ext.refl, p, rfl, by rw [← ht']; rfl⟩
      case hend =>
        intro D σ' yss hD E hd hall2
        rw [all2_pairs hall2, flatMap_filter2 (P := fun p => decide (p ∈ dl)), r2'] at hd
        k_extra "w"
        refine Op2_neL O (int_data hd) (int_data (E _ _ (by simp) hdu6)) int_nice int_nice fun t' ht' => ⟨t', rfl, ?_⟩
        have htf' : t' = false := by
          cases t' with
          | false => rfl
          | true => exact absurd rfl (ht'.mp rfl)
        rw [htf']
        k_extra "w"
        exact (hJ _ _ _).mpr ⟨by k_extra "lle", (E05.trans E6).trans E⟩
  case _ =>
    intro l σ' hj
    obtain ⟨hl, E⟩ := (hJ _ _ _).mp hj
    exact h l σ' hl E
end SLg8
section SLz
theorem flatMap_len {α β : Type} {g : α → List β} {B : Nat} : ∀ {l : List α}, (∀ q ∈ l, (g q).length ≤ B) → (l.flatMap g).length ≤ l.length * B
  | [], _ => by simp
  | x :: l, h => by
    have h1 := h x (.head _)
    have h2 := flatMap_len (l := l) (fun q hq => h q (.tail _ hq))
    rw [List.flatMap_cons, List.length_append, List.length_cons, Nat.succ_mul]
    lia
theorem chainRows_len {ar : Int} {xs : List Int} : (chainRows ar xs).length ≤ xs.length + 2 := by
  unfold chainRows
  simp only [List.length_append, List.length_cons, List.length_map, List.length_dropLast, List.length_drop, List.length_nil]
  lia
theorem finish_len {codes : List Code} {s : BS} {n R : Nat} (h8 : codes.length ≤ 8) (hins : ∀ k ∈ codes, k.ins.length ≤ 100) (h : Sized s n) (hR : s.rows.length ≤ R) : (finishRows codes s).length ≤ R + n * 103 + 8 * 101 := by
  have h1 : (s.chains.flatMap fun q => .label q.1 :: chainRows s.ar q.2).length ≤ s.chains.length * 103 := flatMap_len fun q hq => by
    have a1 := chainRows_len (ar := s.ar) (xs := q.2)
    have a2 := (h.two q hq).2
    rw [List.length_cons]; lia
  have h2 : (codes.zipIdx.flatMap fun q => .label q.2 :: q.1.ins).length ≤ codes.zipIdx.length * 101 := flatMap_len fun q hq => by
    have a1 := hins q.1 (List.fst_mem_of_mem_zipIdx hq)
    rw [List.length_cons]; lia
  have h3 : s.chains.length * 103 ≤ n * 103 := Nat.mul_le_mul_right _ h.chains
  have h4 : codes.zipIdx.length * 101 ≤ 8 * 101 := Nat.mul_le_mul_right _ (by rw [List.length_zipIdx]; exact h8)
  unfold finishRows
  rw [List.length_append, List.length_append]
  lia
theorem small_len {codes : List Code} (hins : ∀ k ∈ codes, k.ins.length ≤ 100) : (smallF codes).length ≤ 100 := by
  cases codes with
  | nil => simp [smallF]
  | cons k ks => exact hins k (.head _)
theorem chainBlock_len {ar : Int} {codes : List Code} (h8 : codes.length ≤ 8) (hins : ∀ k ∈ codes, k.ins.length ≤ 100) : (chainBlockF ar codes).length ≤ 100000 := by
  unfold chainBlockF
  split
  · have := small_len hins; lia
  · have a := chainRows_len (ar := ar) (xs := upto 0 codes.length)
    rw [upto_length] at a
    have := finish_len (s := { initS ar codes with rows := chainRows ar (upto 0 codes.length) }) (n := 0) (R := 10) h8 hins ⟨by simp [initS], by simp [initS], by simp [initS]⟩ (by show (chainRows ar (upto 0 codes.length)).length ≤ 10; lia)
    lia
theorem switched_len {ar : Int} {codes : List Code} {ps : List Int} (h8 : codes.length ≤ 8) (hins : ∀ k ∈ codes, k.ins.length ≤ 100) (hp : ps.length ≤ 8) :
    (finishRows codes (addRows (switchF codes ps (initS ar codes)).2 (switchF codes ps (initS ar codes)).1)).length ≤ 100000 := by
  have S₀ : Sized (initS ar codes) 0 := ⟨by simp [initS], by simp [initS], by simp [initS]⟩
  have S₁ := (S₀.switch (codes := codes) (ps := ps) (by lia)).mono (m := 19) (by lia)
  have r := switchF_rows (codes := codes) (ps := ps) (s := initS ar codes)
  have := finish_len (n := 19) (R := 5) h8 hins (S₁.rows (r := (switchF codes ps (initS ar codes)).1)) (by
    simp only [addRows, List.length_append]
    rw [r.2.1]
    have := r.1
    simp only [initS, List.length_nil] at this ⊢; lia)
  lia
theorem indexBlock_len {ar : Int} {codes : List Code} (h8 : codes.length ≤ 8) (hins : ∀ k ∈ codes, k.ins.length ≤ 100) : (indexBlockF ar codes).length ≤ 100000 := by
  unfold indexBlockF
  split
  · have := small_len hins; lia
  · split
    · exact chainBlock_len h8 hins
    · exact switched_len h8 hins (by rw [upto_length]; lia)
theorem groupBlock_len {ar : Int} {codes : List Code} (h8 : codes.length ≤ 8) (hins : ∀ k ∈ codes, k.ins.length ≤ 100) : (groupBlockF ar codes).length ≤ 100000 := by
  unfold groupBlockF
  split
  · have := small_len hins; lia
  · split
    · exact chainBlock_len h8 hins
    · obtain ⟨gs, hgs⟩ : ∃ gs, gs = groupsF codes := ⟨_, rfl⟩
      have hfl : gs.flatten = upto 0 codes.length := by rw [hgs]; exact groupsF_flat
      have hne : ∀ g ∈ gs, g ≠ [] := by rw [hgs]; exact groupsF_ne
      have hg8 : ∀ g ∈ gs, g.length ≤ 8 := fun g hg => by
        have := mem_flatten_len hg
        rw [hfl, upto_length] at this; lia
      have hgl : gs.length ≤ 8 := by
        have := flatten_len hne
        rw [hfl, upto_length] at this; lia
      simp only [← hgs]
      split
      · refine switched_len h8 hins ?_
        cases gs with
        | nil => simp
        | cons g gs => exact hg8 g (.head _)
      · obtain ⟨lf, hlf⟩ : ∃ lf, lf = labelsF gs (initS ar codes) := ⟨_, rfl⟩
        have hls := labelFold_same gs ([], initS ar codes)
        rw [show gs.foldl labelStep ([], initS ar codes) = lf from hlf.symm] at hls
        simp only [List.length_nil, Nat.zero_add] at hls
        rw [← hlf]
        have S₁ : Sized { lf.2 with rows := chainRows ar lf.1 } 0 := ⟨by show lf.2.known.length ≤ 0; rw [hls.2.2.2.1]; simp [initS], by show lf.2.chains.length ≤ 0; rw [hls.2.2.2.2]; simp [initS], by show ∀ q ∈ lf.2.chains, _; rw [hls.2.2.2.2]; simp [initS]⟩
        have hz : (gs.zip lf.1).length ≤ 8 := by rw [List.length_zip]; lia
        have a := chainRows_len (ar := ar) (xs := lf.1)
        have := gswitch_sized (codes := codes) (gs.zip lf.1) _ (n := 0) (m := 10) (fun q hq => hg8 _ (List.of_mem_zip hq).1) S₁ (by show (chainRows ar lf.1).length ≤ 10; lia)
        have := finish_len h8 hins (this.1.mono (m := 152) (by lia)) (R := 58) (by have := this.2; lia)
        exact Nat.le_trans this (by decide)
end SLz
section SLg9
variable {w : World} {base : Heap} {mg mb : Str → Option Value}
-- set_option profiler true
-- set_option profiler.threshold 1000
noncomputable def flatC (k : Code) : Code := ⟨.var, k.ins⟩
theorem flat_all2 {S : List Addr} {σ σ' : Hp} {D : Addr} : ∀ {as : List Addr} {codes : List Code} {yss : List (List PV)}, All2 (CodeAt S σ) as codes →
    All2 (fun pv ys => ∃ a b, pv = PV.r a ∧ ys = [PV.r b] ∧ ∀ k, CodeAt [] σ a k → CodeAt [D] σ' b (flatC k)) (as.map .r) yss → ∃ bs : List Addr, yss.flatten = bs.map .r ∧ All2 (CodeAt [] σ') bs (codes.map flatC)
  | _, _, _, .nil, h => by cases h; exact ⟨[], rfl, .nil⟩
  | _, _, _, .cons c t, h => by
    cases h with
    | cons h1 h2 =>
      obtain ⟨a, b, e1, e2, h3⟩ := h1
      cases e1
      obtain ⟨bs, e3, h4⟩ := flat_all2 t h2
      exact ⟨b :: bs, by rw [List.flatten_cons, e3, e2]; rfl, .cons ((h3 _ (c.sub (by simp))).sub (by simp)) h4⟩
theorem flat_ci {codes : List Code} (h : CI codes) : CI (codes.map flatC) := fun i k e => by
  rw [List.getElem?_map] at e
  cases q : codes[i]? with
  | none => rw [q] at e; cases e
  | some k' =>
    rw [q] at e
    obtain rfl := Option.some.inj e
    exact h i k' q
set_option maxHeartbeats 16000000 in
theorem law_end {A : Around} {L : Addr} {env : Env} (O : Cx.Ok ⟨gx w base mg mb, A, inF L, env⟩ 6) (H : LE w L env) {σ : Hp} {r cs ca bl : Addr} {a : SA} {F : List (Int × Int)} {N : Nat} {f W m : Int} {codes : List Code}
    (Y : Sym σ a F N) (hN : N ≤ 800) (C : Codes a.S σ cs codes) (hci : CI codes) (hm : (codes.length : Int) = m) (hm2 : 2 ≤ m) (hm8 : m < 8) :
    Ex ⟨gx w base mg mb, A, inF L, env⟩ ((bodyAt (heapK w.params) 322).drop 13) (loc9 r a.y cs ca bl W f m) σ fun fl _ _ => fl = .ret (.d (.bool true)) := by
  have G := O.toOk
  have hs := H.sc
  conv at hs => lhs; whnf; arg 1; whnf
  have hsc := (Option.some.inj hs).symm
  clear hs
  have hce := H.cells
  conv => arg 2; whnf
  have ix := Y.ix
  have ns := Y.ns
  k_extra "w"
  ((with_reducible refine' k_CallM ?z337o ?z337h ?z337e ?z337p); (case z337o => assumption); (case z337e => rfl); (case z337p => kernel_rfl))
  k_extra "w"
  refine ⟨_, _, _, _, 205, rfl, ix, ns, by k_extra "lk", by kernel_rfl, by kernel_rfl, by kernel_rfl, by kernel_rfl, ?_⟩
  k_extra "w"
  refine ((F_func G Y (by lia) fun σ1 n F' t Y1 hF hp E1 => ?_).fn).up (by decide)
  have C1 := C.ext E1 (fun b hb => .inr hb)
  have ar1 := Y1.arAt (by lia) hF
  clear ix ns Y C E1 hp
  obtain ⟨as, hcs, ncs, hall⟩ := C1.at_
  show Ex _ _ _ _ _
  k_extra "1"
  refine Ex1_cut' (fun l σ' => ∃ fl, LocLe (setL (Str.ofString "flat") (.r fl) (setL (Str.ofString "empty") (intPV n) (loc9 r a.y cs ca bl W f m))) l ∧ Ext [] σ1 σ' ∧ Codes [] σ' fl (codes.map flatC)) ?_ ?_
  · refine Ex1_AssignCompG O hsc [(Str.ofString "empty", L + 1 + 1 + 1 + 1 + 1)] [(Str.ofString "empty", intPV n)] (fun D σ' pv ys => ∃ a b, pv = .r a ∧ ys = [.r b] ∧ ∀ k, CodeAt [] σ1 a k → CodeAt [D] σ' b (flatC k)) ?hclos ?hcell ?hkind ?hnames ?hcl ?hG ?hy ?hsw ?h
    case hclos => (exact (closureFor_cells (by assumption)).trans rfl)
    case hcell => decide +kernel
    case hkind => rfl
    case hnames => decide +kernel
    case hcl => exact hcl1 (cells_of hce rfl)
    case hG =>
      rintro D σ σ' p ys E ⟨a, b, e1, e2, h3⟩
      exact ⟨a, b, e1, e2, fun k hk => (h3 k hk).ext E (fun b hb => .inr hb)⟩
    case hy => k_extra "kd"
    case hsw => exact swaps_local hsc rfl rfl rfl (by decide +kernel)
    case h =>
      k_extra "w"
      refine ⟨?hlc, as.map .r, fun σ' E => E _ _ (by simp) hcs, by rw [List.length_map, hall.length]; lia, ?turn, ?hend⟩
      case hlc => (repeat' (first | exact HlcOk.nil | (refine HlcOk.cons (by assumption) (by k_extra "lk") rfl rfl rfl ?_)))
      case turn =>
        rintro D i pv σ' C' hD ⟨dd, hd⟩ hx E O' hsc'
        obtain ⟨x, hx', rfl⟩ := map_get hx
        obtain ⟨b, hb, cb⟩ := all2_left hall hx'
        obtain ⟨dx, il, f', u, ix, ns, hil, n1, n2, n3⟩ := cb.at_
        have ix' := E _ _ (by simp) ix
        have ns' := E _ _ (by simp) ns
        unfold CompTurn
        k_extra "w"
        k_extra "g"
        k_extra "w"
        (first | refine ⟨[_], rfl, Nat.le_of_ble_eq_true rfl, ?_⟩ | refine ⟨[_, _], rfl, Nat.le_of_ble_eq_true rfl, ?_⟩ | refine ⟨[_, _, _], rfl, Nat.le_of_ble_eq_true rfl, ?_⟩ | refine ⟨[_, _, _, _], rfl, Nat.le_of_ble_eq_true rfl, ?_⟩ | refine ⟨[_, _, _, _, _], rfl, Nat.le_of_ble_eq_true rfl, ?_⟩)
        k_extra "w"
        (with_reducible refine' Op1_attr ?z341o ?z341ix ?z341ns ?z341lk ?z341hg ?z341hh ?z341ha ?z341h; (case z341o => assumption); (case z341ix => k_extra "sg"); (case z341ns => k_extra "sg"); (case z341lk => k_extra "lk"); (case z341hg => kernel_rfl); (case z341hh => kernel_rfl); (case z341ha => kernel_rfl))
        k_extra "w"
        refine (F_ClauseCode G fun σ2 z dz hz hdz hcz hcdz E2 => ?_).up (by decide)
        refine ⟨by k_extra "lle", E2, x, z, rfl, rfl, fun k hk => ?_⟩
        obtain ⟨dx', il', f'', u', h1, h2, h3, _⟩ := hk.at_
        rw [ix] at h1
        cases h1
        rw [ns] at h2
        have e2 := MO.ns.inj (Option.some.inj h2)
        simp only [List.cons.injEq, Prod.mk.injEq, true_and, and_true, PV.r.injEq] at e2
        obtain ⟨_, _, e3, _⟩ := e2
        rw [← e3] at h3
        have nz : z ∉ [D] := fun h => by rw [List.mem_singleton.mp h, hd] at hz; cases hz
        have ndz : dz ∉ [D] := fun h => by rw [List.mem_singleton.mp h, hd] at hdz; cases hdz
        have nil' : il ∉ [D] := fun h => by rw [List.mem_singleton.mp h, hD] at h3; cases h3
        exact ⟨dz, il, _, _, hcz, hcdz, E2 _ _ (by simp) (E _ _ (by simp) h3), nz, ndz, nil'⟩
      case hend =>
        intro D σ' yss hD E hd hall2
        obtain ⟨bs, e1, h1⟩ := flat_all2 hall hall2
        rw [e1] at hd
        exact ⟨D, LocLe.refl _, E, ⟨bs, hd, by simp, h1⟩⟩
  rintro l σ2 ⟨fl, hl, E2, C2⟩
  refine Mine.Ex.weak hl ?_
  clear hl l
  have cif := flat_ci hci
  have hlf : (codes.map flatC).length = codes.length := List.length_map _
  generalize codes.map flatC = fcodes at *
  have eB : indexBlockF 0 fcodes = chainBlockF 0 fcodes := by rw [indexBlockF, if_neg (by lia), if_pos (.inl rfl)]
  obtain ⟨bok, brun⟩ := chain_block_ok (codes := fcodes) (ar := 0) (by lia) (by lia) cif.labs
  rw [hlf, hm] at brun
  k_extra "w"
  k_extra "g"
  k_extra "w"
  k_extra "g"
  k_extra "w"
  refine ((F_index_block G (ar1.ext E2) C2 (by lia) cif.len fun b σ3 hb hB E3 => ?_).fn).up (by decide)
  rw [eB] at hB
  k_extra "w"
  (first | refine ⟨[_], rfl, Nat.le_of_ble_eq_true rfl, ?_⟩ | refine ⟨[_, _], rfl, Nat.le_of_ble_eq_true rfl, ?_⟩ | refine ⟨[_, _, _], rfl, Nat.le_of_ble_eq_true rfl, ?_⟩ | refine ⟨[_, _, _, _], rfl, Nat.le_of_ble_eq_true rfl, ?_⟩ | refine ⟨[_, _, _, _, _], rfl, Nat.le_of_ble_eq_true rfl, ?_⟩)
  k_extra "w"
  refine ((F_visits (k := .var) G hB (chainBlock_len (by lia) cif.len) (by rw [labelsOf_fst]; exact bok.nodup) (brun .var) fun t0 σ4 hn ht E4 => ?_).fn).up (by decide)
  show Ex _ _ _ _ _
  k_extra "w"
  refine Ev_CompG O hsc [(Str.ofString "many", L + 1)] [(Str.ofString "many", intPV m)] (fun D σ' pv ys => ∃ p : Int, pv = intPV p ∧ ys = [funPV (p, if p = m - 1 then 0 else 1)]) ?hclos ?hcell ?hkind ?hnames ?hcl ?hG ?h
  case hclos => (exact (closureFor_cells (by assumption)).trans rfl)
  case hcell => decide +kernel
  case hkind => rfl
  case hnames => decide +kernel
  case hcl => exact hcl1 (cells_of hce rfl)
  case hG => exact fun D σ σ' p ys _ h => h
  case h =>
    k_extra "g"
    k_extra "w"
    refine Fn_range1 ⟨?hlc, (upto 0 m).map intPV, fun σ' E => items_rng (by lia) (by lia) (by lia) (by lia), by rw [List.length_map, upto_length]; lia, ?turn, ?hend⟩
    case hlc => (repeat' (first | exact HlcOk.nil | (refine HlcOk.cons (by assumption) (by k_extra "lk") rfl rfl rfl ?_)))
    case turn =>
      rintro D i pv σ' C' hD ⟨dd, hd⟩ hx E O' hsc'
      obtain ⟨p, hp, rfl⟩ := map_get hx
      unfold CompTurn
      k_extra "w"
      by_cases hpl : p = m - 1
      · (with_reducible refine' Eq.mpr (if_pos ?z345n) ?z345h; (case z345n => ((try simp only [decide_eq_true_eq, Option.map_none, Option.isSome_none, Option.map_some, Option.isSome_some, Bool.false_eq_true, not_false_eq_true, List.length_cons, List.length_map, List.length_nil, Bool.not_eq_true]); first | done | lia | assumption)))
        k_extra "w"
        (first | refine ⟨[_], rfl, Nat.le_of_ble_eq_true rfl, ?_⟩ | refine ⟨[_, _], rfl, Nat.le_of_ble_eq_true rfl, ?_⟩ | refine ⟨[_, _, _], rfl, Nat.le_of_ble_eq_true rfl, ?_⟩ | refine ⟨[_, _, _, _], rfl, Nat.le_of_ble_eq_true rfl, ?_⟩ | refine ⟨[_, _, _, _, _], rfl, Nat.le_of_ble_eq_true rfl, ?_⟩)
        exact ⟨by k_extra "lle", Ext.refl, p, rfl, by rw [if_pos hpl]; rfl⟩
      · (with_reducible refine' Eq.mpr (if_neg ?z347n) ?z347h; (case z347n => ((try simp only [decide_eq_true_eq, Option.map_none, Option.isSome_none, Option.map_some, Option.isSome_some, Bool.false_eq_true, not_false_eq_true, List.length_cons, List.length_map, List.length_nil, Bool.not_eq_true]); first | done | lia | assumption)))
        k_extra "w"
        (first | refine ⟨[_], rfl, Nat.le_of_ble_eq_true rfl, ?_⟩ | refine ⟨[_, _], rfl, Nat.le_of_ble_eq_true rfl, ?_⟩ | refine ⟨[_, _, _], rfl, Nat.le_of_ble_eq_true rfl, ?_⟩ | refine ⟨[_, _, _, _], rfl, Nat.le_of_ble_eq_true rfl, ?_⟩ | refine ⟨[_, _, _, _, _], rfl, Nat.le_of_ble_eq_true rfl, ?_⟩)
        exact ⟨by k_extra "lle", Ext.refl, p, rfl, by rw [if_neg hpl]; rfl⟩
    case hend =>
      intro D σ' yss hD E hd hall2
      rw [all2_ints hall2, flatMap_one] at hd
      have hmk : marks 0 (upto 0 m) = (upto 0 m).map fun p => (p, if p = m - 1 then 0 else 1) := by rw [marks_map 0 _ (upto_nodup m), upto_last (by lia)]; rfl
      have hd' : σ' D = some (.list ((marks 0 (upto 0 m)).map funPV)) := by rw [hd, hmk, List.map_map]; rfl
      refine Op2_eqL O (fun_data (E _ _ (by simp) ht)) (fun_data hd') fun_nice fun_nice fun t' ht' => ?_
      obtain rfl : t' = true := ht'.mpr rfl
      rfl
end SLg9
section SLg10
variable {w : World} {base : Heap} {mg mb : Str → Option Value}
-- set_option profiler true
-- set_option profiler.threshold 1000
theorem Sym.extR {σ σ' : Hp} {a : SA} {F : List (Int × Int)} {N : Nat} {T : List Addr} (Y : Sym σ a F N) (E : Ext T σ σ') (h : ∀ b ∈ T, (∃ xs, σ b = some (.list xs)) ∧ b ∉ a.S) : Sym σ' a F N :=
  Y.extT E fun b hb => by
    obtain ⟨⟨xs, e⟩, n⟩ := h b hb
    refine ⟨fun z => ?_, fun z => ?_, n⟩
    · rw [z, Y.ix] at e; cases e
    · rw [z, Y.ns] at e; cases e
set_option maxHeartbeats 16000000 in
theorem law_core {A : Around} {L : Addr} {env : Env} (O : Cx.Ok ⟨gx w base mg mb, A, inF L, env⟩ 6) (H : LE w L env) {sc : Addr} {vs : List Value} {ns : List Int} (hl : base.IsList sc vs.toArray) (hr : All2 (PRep base) vs (ns.map intPV)) (hz : ns.length ≤ 1000) :
    Ex ⟨gx w base mg mb, A, inF L, env⟩ (bodyAt (heapK w.params) 322) [(Str.ofString "script", .r sc)] (fun _ => none) fun fl _ _ => fl = .ret (.d (.bool true)) := by
  have G := O.toOk
  have hs := H.sc
  conv at hs => lhs; whnf; arg 1; whnf
  have hsc := (Option.some.inj hs).symm
  clear hs
  have hce := H.cells
  conv => arg 2; whnf
  k_extra "w"
  k_extra "g"
  k_extra "w"
  refine ((F_row G hl hr hz fun r ys σ1 hy _ hr1 E1 => ?_).fn).up (by decide)
  show Ex _ _ _ _ _
  k_extra "w"
  k_extra "g"
  k_extra "w"
  refine (F_Symbols G fun σ2 a F Y E2 hS => ?_).up (by decide)
  have hr2 := E2 _ _ (by simp) hr1
  have hra : r ∉ a.S := fun z => by rw [hS r z] at hr1; cases hr1
  show Ex _ _ _ _ _
  k_extra "w"
  k_extra "g"
  k_extra "w"
  refine ((F_next G hr2 hy fun v ys3 σ3 hy3 hr3 E3 => ?_).fn).up (by decide)
  k_extra "w"
  refine Op2_mod (by decide) ?_
  have hW := fmod_range (a := v) (b := 3) (by decide)
  k_extra "w"
  generalize v.fmod 3 = v3 at *
  have Y3 := Y.extR E3 (by intro b hb; rw [List.mem_singleton.mp hb]; exact ⟨⟨_, hr2⟩, hra⟩)
  have ix3 := Y3.ix
  have ns3 := Y3.ns
  ((with_reducible refine' k_CallM ?z349o ?z349h ?z349e ?z349p); (case z349o => assumption); (case z349e => rfl); (case z349p => kernel_rfl))
  k_extra "w"
  refine ⟨_, _, _, _, 205, rfl, ix3, ns3, by k_extra "lk", by kernel_rfl, by kernel_rfl, by kernel_rfl, by kernel_rfl, ?_⟩
  k_extra "w"
  refine ((F_func G Y3 (by lia) fun σ4 n F' t Y4 hF hp E4 => ?_).fn).up (by decide)
  have hr4 := E4 _ _ hra hr3
  show Ex _ _ _ _ _
  k_extra "w"
  k_extra "g"
  k_extra "w"
  refine ((F_next G hr4 (by lia) fun v2 ys5 σ5 hy5 hr5 E5 => ?_).fn).up (by decide)
  k_extra "w"
  refine Op2_mod (by decide) ?_
  have hm := fmod_range (a := v2) (b := 8) (by decide)
  k_extra "w"
  generalize v2.fmod 8 = m at *
  have Y5 := Y4.extR E5 (by intro b hb; rw [List.mem_singleton.mp hb]; exact ⟨⟨_, hr4⟩, hra⟩)
  refine ⟨Nat.zero_le _, fun cs hcs => ?_⟩
  have hrcs : r ≠ cs := fun z => by rw [← z, hr5] at hcs; cases hcs
  have hcsS : cs ∉ a.S := Y5.live.not hcs
  have Y6 := Y5.ext (Ext.refl.new (mo := .list []) hcs)
  have hr6 := setH_new (mo := .list []) hcs hr5
  have hc6 : (setH σ5 cs (.list [])) cs = some (.list []) := setH_self
  have hL6 : Live (r :: a.S) (setH σ5 cs (.list [])) := by
    intro b hb
    rcases List.mem_cons.mp hb with z | z
    · exact ⟨_, by rw [z]; exact hr6⟩
    · exact Y6.live b z
  show Ex _ _ _ (setH σ5 cs (.list [])) _
  generalize setH σ5 cs (.list []) = σ6 at *
  obtain ⟨W, hWW⟩ : ∃ W, W = 1 + v3 := ⟨_, rfl⟩
  rw [← hWW] at hF ⊢
  have hW0 : W ≠ 0 := by lia
  refine Mine.Ex.weak (l0 := loc7 r a.y cs W n m) (by k_extra "lle") ?_
  clear hcs hr5 Y5 E5 hr4 E4 hp Y4 ns3 ix3 Y3 E3 hr3 hr2 Y E2 hr1 E1 hS
  k_extra "1"
  refine law_codes O H (S := a.S) hr6 (by lia) hc6 hrcs hm.1 hm.2 hL6 hcsS fun l σ7 codes ys7 hl7 hlen C7 hci hr7 hy7 E7 => ?_
  have Y7 := Y6.extR E7 (by
    intro b hb
    simp only [List.mem_cons, List.not_mem_nil, or_false] at hb
    rcases hb with rfl | rfl
    · exact ⟨⟨_, hr6⟩, hra⟩
    · exact ⟨⟨_, hc6⟩, hcsS⟩)
  have hmc : (codes.length : Int) = m := by rw [hlen]; lia
  show Ex _ _ _ _ _
  with_reducible refine' Mine.Ex.weak hl7 ?_
  clear hl7 l
  k_extra "1"
  have h8 : codes.length ≤ 8 := by lia
  show Ex1 _ (stAt w.params 7) _ _ _
  with_reducible refine law_calls O H hr7 hy7 C7 h8 fun l σ8 ca ks hl8 hca8 hks C8 E8 => ?_
  have Y8 := Y7.extR E8 (by intro b hb; rw [List.mem_singleton.mp hb]; exact ⟨⟨_, hr7⟩, hra⟩)
  have ar8 := Y8.arAt (by lia) hF
  show Ex _ _ _ _ _
  refine Mine.Ex.weak (l0 := loc8 r a.y cs ca W n m) (LocLe.trans (by k_extra "lle") hl8) ?_
  clear hl8 l
  k_extra "1"
  refine law_blocks O H ar8 C8.nil (by lia) hci fun l σ9 bl b0 b1 b2 hl9 hbl hb0 hb1 hb2 E9 => ?_
  have C9 := C8.ext E9 (by simp)
  have Y9 := Y8.ext E9
  have hca9 := E9 _ _ (by simp) hca8
  show Ex _ _ _ _ _
  refine Mine.Ex.weak (l0 := loc9 r a.y cs ca bl W n m) (LocLe.trans (by k_extra "lle") hl9) ?_
  clear hl9 l
  k_extra "1"
  refine law_small O H C9.nil hci hlen hm.1 hbl hb0 hb1 hb2 (fun _ _ _ => rfl) fun hm2 => ?_
  show Ex _ _ _ _ _
  have h2 : 2 ≤ codes.length := by lia
  have K0 : BlkAt σ9 b0 (indexBlockF W codes) codes := ⟨hb0, (index_block_ok h2 h8 hW0 hci.labs).1, indexBlock_len h8 hci.len⟩
  have K1 : BlkAt σ9 b1 (chainBlockF W codes) codes := ⟨hb1, (chain_block_ok h2 h8 hci.labs).1, chainBlock_len h8 hci.len⟩
  have K2 : BlkAt σ9 b2 (groupBlockF W codes) codes := ⟨hb2, (group_block_ok h2 h8 hW0 hci.labs).1, groupBlock_len h8 hci.len⟩
  have R0 := (index_block_ok h2 h8 hW0 hci.labs).2
  have R1 := (chain_block_ok (ar := W) h2 h8 hci.labs).2
  have R2 := (group_block_ok h2 h8 hW0 hci.labs).2
  rw [hmc] at R0 R1 R2
  k_extra "1"
  refine law_allvar O H C9.nil h8 h2 hbl hb0 hb1 K0.len K1.len fun l σ10 hl10 E10 => ?_
  show Ex _ _ _ _ _
  refine Mine.Ex.weak hl10 ?_
  clear hl10 l
  k_extra "1"
  refine law_labels O H (C9.ext E10 (by simp)).nil hci hlen hm.1 hm.2 (E10 _ _ (by simp) hbl) (fun b hb => ?_) fun l σ11 hl11 E11 => ?_
  · simp only [List.mem_cons, List.not_mem_nil, or_false] at hb
    rcases hb with rfl | rfl | rfl
    · exact ⟨_, E10 _ _ (by simp) K0.at_, K0.ok, K0.len⟩
    · exact ⟨_, E10 _ _ (by simp) K1.at_, K1.ok, K1.len⟩
    · exact ⟨_, E10 _ _ (by simp) K2.at_, K2.ok, K2.len⟩
  have E := E10.trans E11
  show Ex _ _ _ _ _
  refine Mine.Ex.weak hl11 ?_
  clear hl11 l
  k_extra "1"
  refine law_keys O H (C9.ext E (by simp)).nil hmc hm2 hm.2 (E _ _ (by simp) hbl) (E _ _ (by simp) hca9) ⟨E _ _ (by simp) K0.at_, K0.ok, K0.len⟩ ⟨E _ _ (by simp) K1.at_, K1.ok, K1.len⟩ ⟨E _ _ (by simp) K2.at_, K2.ok, K2.len⟩ R0 R1 R2 fun l σ12 hl12 E12 => ?_
  have E' := E.trans E12
  show Ex _ _ _ _ _
  refine Mine.Ex.weak hl12 ?_
  exact law_end O H (Y9.ext E') (by lia) ((C9.ext E' (by simp)).sub (by intro b hb; exact .tail _ hb)) hci hmc hm2 hm.2
end SLg10
section SJn
noncomputable abbrev lawN : Str := Str.ofString "law"
theorem law_core' {w : World} {base : Heap} {mg mb : Str → Option Value} {S : Scope} {A : Around} {L fa : Addr} {cd : Value}
    (hS : scopeAt (heapK w.params) 322 = some S) (hc : cellsFrom (L + 1) S.names [] = lawCells L) (O : Cx.Ok ⟨gx w base mg mb, A, inF L, envOfC lawN S L fa cd⟩ 6)
    {sc : Addr} {vs : List Value} {ns : List Int} (hl : base.IsList sc vs.toArray) (hr : All2 (PRep base) vs (ns.map fun i => PV.d (.int i))) (hz : ns.length ≤ 1000) :
    Ex ⟨gx w base mg mb, A, inF L, envOfC lawN S L fa cd⟩ (bodyAt (heapK w.params) 322) [(Str.ofString "script", .r sc)] (fun _ => none) fun fl _ _ => fl = .ret (.d (.bool true)) :=
  law_core O ⟨hS, hc⟩ hl hr hz
theorem cells_in {L : Addr} {x : Str} {a : Addr} {e k d c m : Str} (h : [(e, L + 1 + 1 + 1 + 1 + 1), (k, L + 1 + 1 + 1 + 1), (d, L + 1 + 1 + 1), (c, L + 1 + 1), (m, L + 1)].lookup x = some a) : L < a ∧ a ≤ L + 5 := by
  obtain ⟨l1, l2, e1, _⟩ := List.lookup_eq_some_iff.mp h
  have hm : (x, a) ∈ [(e, L + 1 + 1 + 1 + 1 + 1), (k, L + 1 + 1 + 1 + 1), (d, L + 1 + 1 + 1), (c, L + 1 + 1), (m, L + 1)] := by rw [e1]; simp
  simp only [List.mem_cons, Prod.mk.injEq, List.not_mem_nil, or_false] at hm
  have key : ∀ L a : Nat, (a = L + 1 + 1 + 1 + 1 + 1 ∨ a = L + 1 + 1 + 1 + 1 ∨ a = L + 1 + 1 + 1 ∨ a = L + 1 + 1 ∨ a = L + 1) → L < a ∧ a ≤ L + 5 := by intro L a h; lia
  refine key L a ?_
  rcases hm with h | h | h | h | h <;> simp [h.2]
theorem cells_ap {L : Addr} {e k d c m : Str} : [(e, L + 1 + 1 + 1 + 1 + 1), (k, L + 1 + 1 + 1 + 1), (d, L + 1 + 1 + 1), (c, L + 1 + 1), (m, L + 1)].Pairwise (fun x y => x.2 ≠ y.2) := by
  have key : ∀ L : Nat, [(e, L + 1 + 1 + 1 + 1 + 1), (k, L + 1 + 1 + 1 + 1), (d, L + 1 + 1 + 1), (c, L + 1 + 1), (m, L + 1)].Pairwise (fun x y => x.2 ≠ y.2) := by
    intro L
    simp only [List.pairwise_cons, List.mem_cons, List.not_mem_nil, or_false, forall_eq_or_imp, forall_eq, List.Pairwise.nil, and_true, false_imp_iff, implies_true]
    refine ⟨⟨?_, ?_, ?_, ?_⟩, ⟨?_, ?_, ?_⟩, ⟨?_, ?_⟩, ?_⟩ <;> lia
  exact key L
theorem cells_ab {L : Addr} {e k d c m : Str} : ∀ x a, (x, a) ∈ [(e, L + 1 + 1 + 1 + 1 + 1), (k, L + 1 + 1 + 1 + 1), (d, L + 1 + 1 + 1), (c, L + 1 + 1), (m, L + 1)] → L < a := by
  have key : ∀ (L : Nat) x a, (x, a) ∈ [(e, L + 1 + 1 + 1 + 1 + 1), (k, L + 1 + 1 + 1 + 1), (d, L + 1 + 1 + 1), (c, L + 1 + 1), (m, L + 1)] → L < a := by
    intro L x a h
    simp only [List.mem_cons, Prod.mk.injEq, List.not_mem_nil, or_false] at h
    lia
  exact key L
theorem cells_inj {L : Addr} {e k d c m : Str} : ∀ x y a, [(e, L + 1 + 1 + 1 + 1 + 1), (k, L + 1 + 1 + 1 + 1), (d, L + 1 + 1 + 1), (c, L + 1 + 1), (m, L + 1)].lookup x = some a →
    [(e, L + 1 + 1 + 1 + 1 + 1), (k, L + 1 + 1 + 1 + 1), (d, L + 1 + 1 + 1), (c, L + 1 + 1), (m, L + 1)].lookup y = some a → x = y := by
  intro x y a h1 h2
  exact name_of_addr cells_ap (mem_of_lookup h1) (mem_of_lookup h2)
theorem cells_isF {L : Addr} {e k d c m : Str} (hn : [e, k, d, c, m].Nodup) : ∀ a, inF L a → a = L ∨ ∃ x, [(e, L + 1 + 1 + 1 + 1 + 1), (k, L + 1 + 1 + 1 + 1), (d, L + 1 + 1 + 1), (c, L + 1 + 1), (m, L + 1)].lookup x = some a := by
  intro a ⟨h1, h2⟩
  have key : ∀ L a : Nat, L ≤ a → a ≤ L + 5 → a = L ∨ a = L + 1 + 1 + 1 + 1 + 1 ∨ a = L + 1 + 1 + 1 + 1 ∨ a = L + 1 + 1 + 1 ∨ a = L + 1 + 1 ∨ a = L + 1 := by intro L a h1 h2; lia
  have lk : ∀ x b, (x, b) ∈ [(e, L + 1 + 1 + 1 + 1 + 1), (k, L + 1 + 1 + 1 + 1), (d, L + 1 + 1 + 1), (c, L + 1 + 1), (m, L + 1)] → [(e, L + 1 + 1 + 1 + 1 + 1), (k, L + 1 + 1 + 1 + 1), (d, L + 1 + 1 + 1), (c, L + 1 + 1), (m, L + 1)].lookup x = some b :=
    fun x b hm => lookup_of_mem_nodup hn hm
  rcases key L a h1 h2 with h | h | h | h | h | h
  · exact .inl h
  · exact .inr ⟨e, by rw [h]; exact lk e _ (by simp)⟩
  · exact .inr ⟨k, by rw [h]; exact lk k _ (by simp)⟩
  · exact .inr ⟨d, by rw [h]; exact lk d _ (by simp)⟩
  · exact .inr ⟨c, by rw [h]; exact lk c _ (by simp)⟩
  · exact .inr ⟨m, by rw [h]; exact lk m _ (by simp)⟩
set_option maxRecDepth 100000 in
theorem law_said : PySem.Challenge.rw_no0161_01.wellSaid = true := by
  rw [Fast.te9446332074065402090]
  kernel_rfl
set_option maxRecDepth 100000 in
set_option maxHeartbeats 8000000 in
theorem fin_ : PySem.Challenge.rw_no0161_01.Holds := by
  w_on
  refine holds_law Mine.law_said fun said => ?_
  refine holds_open (q := Mine.viewP) (loose := []) (Xt := Mine.lawXt) (XP := XL Mine.viewP []) (Yf := Hook.obs Mine.lawH) (Ya := Hook.val Mine.lawH) (YP := Hook.says Mine.lawH) (N := 3996) Mine.law_left (Hook.of Mine.lawH) (Hook.keeps Mine.lawH)
    (fun s e => xl_of s (Bool.and_eq_true_iff.mp e).1) XL.keeps (by rfl) (by rfl) (by rfl) (fun s e => recFacts_of (Bool.and_eq_true_iff.mp e).2) (by rfl) (by assumption) (by decide +kernel) ⟨rfl, rfl, rfl, rfl, rfl, by decide +kernel⟩ ?hw ?hc
  case hw => w_witness2
  intro w s₀ s₁ mg mb G Y fa o pm cd doc dV kV ho hd hcd hD hmg hg args vals as hpre hlay hrd hwl hlo
  have KX := kIn_of Y
  refine Ground.open G ?_
  intro T B D TE TW
  clear D
  obtain ⟨w14, w13, M⟩ := bmod_of_top T
  have TA := at_of_top T
  obtain ⟨w12, w11, he, B0⟩ := based_of_top T rfl hmg ho hd
  have he' : cd = _ := he
  subst he'
  clear he hmg
  wrow_args hpre hlay hrd hwl hlo
  refine enter_call ?_
  w_top on
  refine codeAny_mono ?_ (fun _ _ g => GoodW.toG g)
  have K0 := below_caller (Top.heap T)
  w_call any ho hd hcd hD T F
  clear hd TA
  rename_i ns hs hlay0 hL1 hr1 hl2 w9 w8 sc vs w5 hL ra w1 r0 hI hr hc1 hc2 h₁ tk₁ w4 w3 w2 w1' w0 l3 l2 l1 l0 r X0 N0
  have hG : (gx w s₁.heap mg mb).Ok := ⟨KX, T.g, T.b, T.nolimit, T.builtins, Nat.lt_of_le_of_lt (by decide) (Heap.lt_size (KX 322 _ rfl))⟩
  have hcl := Cl.of_news (own := []) X0 N0 cells_ap cells_ab
  clear hcd hD Y B TE TW M K0 B0 ho X0 N0 l3 l2 l1 l0 r G
  have hr' : All2 (PRep s₁.heap) vs (ns.map fun i => PV.d (.int i)) := by
    have h : ∀ {vs : List Value} {ns : List Int}, IntsAre vs ns → All2 (PRep s₁.heap) vs (ns.map fun i => PV.d (.int i)) := by
      intro vs ns h
      induction h with
      | nil => exact .nil
      | cons n t _ ih => exact .cons (mk_int _ _ _) ih
    exact h hI
  have hz : ns.length ≤ 63 := by lia
  refine wpAny_mono (Q := fun f s' => ∃ h' tk', s' = { heap := h', gens := s₁.gens, drawn := s₁.drawn, toks := tk', os := s₁.os } ∧ f = .ret (.bool true) ∧ HRel (gx w s₁.heap mg mb).prog (gx w s₁.heap mg mb).w s₁.heap (fun _ => none) h') (E := NoE) ?_ ?_ (fun _ _ z => z.elim)
  · refine wpAny_mono ((law_core' (base := s₁.heap) (mg := mg) (mb := mb) (A := callerA.deeper _) (L := s₁.heap.objs.size) (fa := fa) (cd := .ref w12) (by exact rfl) (by exact rfl) ?O hL hr' (by lia)) { heap := h₁, gens := s₁.gens, drawn := s₁.drawn, toks := tk₁, os := s₁.os } ?f) ?_ (fun _ _ z => z)
    case O =>
      exact
        { toOk := hG
          hh := rfl
          depth := by show callerA.depth + 1 + 6 < recursionLimit; decide +kernel
          units := by show callerA.units + 3 + 16 * 6 + 200 < cLine; decide +kernel
          kind := rfl
          globals := rfl
          builtins := rfl
          newL := Nat.le_refl _
          FL := ⟨Nat.le_refl _, Nat.le_add_right _ _⟩
          isF := cells_isF (by decide +kernel)
          inj := cells_inj
          newC := fun x a e => Nat.le_of_lt (cells_in e).1 }
    case f =>
      refine ⟨⟨F.keep, (fun a mo e => nomatch e), (fun a mo e => nomatch e), Nat.le_of_lt (Nat.lt_of_le_of_lt F.above F.ns.lt)⟩, ⟨_, F.ns, fun x pv e kd => ?_⟩, fun x pv e kd => ?_, fun x a e => ⟨⟨_, hcl.cell x a e⟩, rfl⟩, fun _ _ => rfl⟩
      · simp only [lkp] at e
        split at e
        · rename_i hx
          cases e
          exact ⟨.ref sc, by rw [hx]; rfl, mk_ref _ _⟩
        · cases e
      · exfalso
        simp only [lkp] at e
        split at e
        · rename_i hx
          rw [hx] at kd
          have kk : ∀ K : Option NameKind, K = some .local → (K = some .cell ∨ K = some .free) → False := by
            rintro K rfl (h | h) <;> cases h
          exact kk _ (by rfl) kd
        · cases e
    rintro f s' ⟨b, l', σ', h', tk', rfl, rr, rfl, ff, S'⟩
    refine ⟨h', tk', rfl, ?_, ff.H.le (fun a mo e => nomatch e)⟩
    cases f with
    | ret v => exact congrArg _ (prep_bool rr)
    | _ => exact rr.elim
  · rintro f s' ⟨h', tk', rfl, rfl, R⟩
    refine ⟨.inl ⟨_, _, _, rfl, fun _ => rfl, .bool true, by kernel_rfl, fun _ => ⟨.nil, by simp⟩⟩, R.keep, rfl, hg⟩
end SJn
end Mine
theorem PySem.Challenge.cw_no0161_01_holds : PySem.Challenge.rw_no0161_01.Holds :=
  Mine.fin_
