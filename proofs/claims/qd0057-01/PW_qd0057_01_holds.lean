import PyProof.Rows.All
import Wide.All
import Open.Line
import OpenK.KWalk
import OpenK.KCall
import OpenK.KCell
import OpenK.KCls
import OpenK.KDescr
import OpenK.KDict
import OpenK.KFacts
import OpenK.KGet
import OpenK.KList
import OpenK.KMake
import OpenK.KMeth
import OpenK.KMore
import OpenK.KOps
import OpenK.KTop
import OpenK.XOpen
import Wide.FinOn
import Open.FastT9
import PySem.Challenge.RW_qd0057_01
set_option Elab.async false
set_option linter.all false
set_option maxRecDepth 100000
section
open PySem PySem.W PyProof.Rows
namespace Mine
/-- the text's body, its defs -/
noncomputable def topBody : List Stmt := PySem.Challenge.rw_qd0057_01.row.prog.main.body
def fdS : Stmt → Arguments × List Stmt × Scope
  | Stmt.FunctionDef _ a b _ _ _ sc _ _ _ => (a, b, sc)
  | _ => default
def clsS : Stmt → List Stmt
  | Stmt.ClassDef _ _ _ b .. => b
  | _ => []
noncomputable def fd1 (i : Nat) : Arguments × List Stmt × Scope := fdS (topBody.getD i (Stmt.Pass default))
noncomputable def fd2 (c j : Nat) : Arguments × List Stmt × Scope := fdS ((clsS (topBody.getD c (Stmt.Pass default))).getD j (Stmt.Pass default))
noncomputable def ob3 (P : Params) : Obj := { cls := Value.type "dict", data := Data.dict #[{ hash := PyData.keyHash P (Str.ofString "__name__"), key := Value.str (Str.ofString "__name__") 165, val := Value.str (Str.ofString "law_qd0057_01") 486 }, { hash := PyData.keyHash P (Str.ofString "__doc__"), key := Value.str (Str.ofString "__doc__") 166, val := Value.none }, { hash := PyData.keyHash P (Str.ofString "__package__"), key := Value.str (Str.ofString "__package__") 167, val := Value.none }, { hash := PyData.keyHash P (Str.ofString "__loader__"), key := Value.str (Str.ofString "__loader__") 168, val := Value.builtin "__main__.__loader__#opaque" }, { hash := PyData.keyHash P (Str.ofString "__spec__"), key := Value.str (Str.ofString "__spec__") 169, val := Value.none }, { hash := PyData.keyHash P (Str.ofString "__annotations__"), key := Value.str (Str.ofString "__annotations__") 170, val := Value.ref 6 }, { hash := PyData.keyHash P (Str.ofString "__builtins__"), key := Value.str (Str.ofString "__builtins__") 171, val := Value.ref 4 }, { hash := PyData.keyHash P (Str.ofString "__file__"), key := Value.str (Str.ofString "__file__") 173, val := Value.str (Str.ofString "/claim/cut.py") 172 }, { hash := PyData.keyHash P (Str.ofString "__cached__"), key := Value.str (Str.ofString "__cached__") 174, val := Value.none }, { hash := PyData.keyHash P (Str.ofString "_wall"), key := Value.str (Str.ofString "_wall") 193, val := Value.ref 21 }, { hash := PyData.keyHash P (Str.ofString "ToolError"), key := Value.str (Str.ofString "ToolError") 233, val := Value.ref 46 }, { hash := PyData.keyHash P (Str.ofString "GrammarError"), key := Value.str (Str.ofString "GrammarError") 249, val := Value.ref 59 }, { hash := PyData.keyHash P (Str.ofString "END"), key := Value.str (Str.ofString "END") 253, val := Value.int 0 252 }, { hash := PyData.keyHash P (Str.ofString "ERROR"), key := Value.str (Str.ofString "ERROR") 255, val := Value.int 1 254 }, { hash := PyData.keyHash P (Str.ofString "OWN_TERMINALS"), key := Value.str (Str.ofString "OWN_TERMINALS") 259, val := Value.ref 62 }, { hash := PyData.keyHash P (Str.ofString "Rule"), key := Value.str (Str.ofString "Rule") 304, val := Value.ref 80 }, { hash := PyData.keyHash P (Str.ofString "Grammar"), key := Value.str (Str.ofString "Grammar") 412, val := Value.ref 162 }, { hash := PyData.keyHash P (Str.ofString "last_terminal"), key := Value.str (Str.ofString "last_terminal") 422, val := Value.ref 173 }, { hash := PyData.keyHash P (Str.ofString "plain_grammar"), key := Value.str (Str.ofString "plain_grammar") 428, val := Value.ref 179 }, { hash := PyData.keyHash P (Str.ofString "MOST_WORD"), key := Value.str (Str.ofString "MOST_WORD") 432, val := Value.int 10000 431 }, { hash := PyData.keyHash P (Str.ofString "joined_words"), key := Value.str (Str.ofString "joined_words") 442, val := Value.ref 186 }, { hash := PyData.keyHash P (Str.ofString "joined_length"), key := Value.str (Str.ofString "joined_length") 452, val := Value.ref 193 }, { hash := PyData.keyHash P (Str.ofString "least_rules"), key := Value.str (Str.ofString "least_rules") 465, val := Value.ref 200 }, { hash := PyData.keyHash P (Str.ofString "least_words"), key := Value.str (Str.ofString "least_words") 477, val := Value.ref 207 }, { hash := PyData.keyHash P (Str.ofString "least_sentence"), key := Value.str (Str.ofString "least_sentence") 485, val := Value.ref 214 }, { hash := PyData.keyHash P (Str.ofString "_law_tape"), key := Value.str (Str.ofString "_law_tape") 497, val := Value.ref 221 }, { hash := PyData.keyHash P (Str.ofString "_law_draw"), key := Value.str (Str.ofString "_law_draw") 506, val := Value.ref 228 }, { hash := PyData.keyHash P (Str.ofString "_law_bits"), key := Value.str (Str.ofString "_law_bits") 512, val := Value.ref 233 }, { hash := PyData.keyHash P (Str.ofString "_law_grammar"), key := Value.str (Str.ofString "_law_grammar") 518, val := Value.ref 238 }, { hash := PyData.keyHash P (Str.ofString "law"), key := Value.str (Str.ofString "law") 524, val := Value.ref 243 }] 30 }
noncomputable def ob62 (P : Params) : Obj := { cls := Value.type "tuple", data := Data.seq #[Value.str (Str.ofString "$end") 256, Value.str (Str.ofString "error") 257, Value.str (Str.ofString "$undefined") 258] }
noncomputable def ob70 (P : Params) : Obj := { cls := Value.type "tuple", data := Data.seq #[Value.int (-1) 273, Value.none, Value.int 0 274, Value.int 0 275] }
noncomputable def ob174 (P : Params) : Obj := { cls := Value.type "tuple", data := Data.seq #[Value.none] }
noncomputable def ob76 (P : Params) : Obj := { cls := Value.type "code", data := Data.fields #[Value.str (Str.ofString "__init__") 276, Value.str (Str.ofString "Rule.__init__") 277, Value.str (Str.ofString "/claim/cut.py") 278, Value.int 24 0, Value.int 8 0, Value.int 0 0, Value.int 0 0, Value.int 3 0, Value.ref 71, Value.bool true, Value.int 181 0, Value.ref 72, Value.none, Value.ref 73, Value.ref 74, Value.ref 75, Value.int 287 0, Value.int 24 0, Value.str (Str.ofString "/claim/cut.py") 288] }
noncomputable def ob77 (P : Params) : Obj := { cls := Value.type "function", data := Data.func { name := Str.ofString "__init__", qualname := Str.ofString "Rule.__init__", params := (fd2 8 0).1, body := FuncBody.stmts (fd2 8 0).2.1, scope := (fd2 8 0).2.2, globals := 3, closure := [], defaults := Value.ref 70, kwdefaults := Value.none, pyModule := Value.str (Str.ofString "grammarmill.grammar") 250, code := Value.ref 76 } }
noncomputable def ob79 (P : Params) : Obj := { cls := Value.type "dict", data := Data.dict #[{ hash := PyData.keyHash P (Str.ofString "__module__"), key := Value.str (Str.ofString "__module__") 267, val := Value.str (Str.ofString "grammarmill.grammar") 250 }, { hash := PyData.keyHash P (Str.ofString "__firstlineno__"), key := Value.str (Str.ofString "__firstlineno__") 271, val := Value.int 22 270 }, { hash := PyData.keyHash P (Str.ofString "__init__"), key := Value.str (Str.ofString "__init__") 289, val := Value.ref 77 }, { hash := PyData.keyHash P (Str.ofString "__static_attributes__"), key := Value.str (Str.ofString "__static_attributes__") 297, val := Value.ref 78 }, { hash := PyData.keyHash P (Str.ofString "__dict__"), key := Value.str (Str.ofString "__dict__") 299, val := Value.ref 81 }, { hash := PyData.keyHash P (Str.ofString "__weakref__"), key := Value.str (Str.ofString "__weakref__") 301, val := Value.ref 82 }, { hash := PyData.keyHash P (Str.ofString "__doc__"), key := Value.str (Str.ofString "__doc__") 302, val := Value.none }] 4 }
noncomputable def ob80 (P : Params) : Obj := { cls := Value.type "type", data := Data.cls { name := Str.ofString "Rule", bases := [Value.type "object"], mro := [Value.ref 80, Value.type "object"], ns := 79, qualname := Str.ofString "Rule" }, slots := #[none, none, some (Value.str (Str.ofString "Rule") 260), some (Value.str (Str.ofString "Rule") 268), some (Value.builtin "object.__new__"), some (Value.bool true)] }
noncomputable def ob95 (P : Params) : Obj := { cls := Value.type "code", data := Data.fields #[Value.str (Str.ofString "__init__") 317, Value.str (Str.ofString "Grammar.__init__") 318, Value.str (Str.ofString "/claim/cut.py") 319, Value.int 34 0, Value.int 7 0, Value.int 0 0, Value.int 0 0, Value.int 3 0, Value.ref 92, Value.bool true, Value.int 181 0, Value.ref 93, Value.none, Value.none, Value.none, Value.ref 94, Value.int 320 0, Value.int 34 0, Value.str (Str.ofString "/claim/cut.py") 321] }
noncomputable def ob96 (P : Params) : Obj := { cls := Value.type "function", data := Data.func { name := Str.ofString "__init__", qualname := Str.ofString "Grammar.__init__", params := (fd2 9 0).1, body := FuncBody.stmts (fd2 9 0).2.1, scope := (fd2 9 0).2.2, globals := 3, closure := [], defaults := Value.none, kwdefaults := Value.none, pyModule := Value.str (Str.ofString "grammarmill.grammar") 250, code := Value.ref 95 } }
noncomputable def ob102 (P : Params) : Obj := { cls := Value.type "code", data := Data.fields #[Value.str (Str.ofString "symbol_count") 323, Value.str (Str.ofString "Grammar.symbol_count") 324, Value.str (Str.ofString "/claim/cut.py") 325, Value.int 50 0, Value.int 1 0, Value.int 0 0, Value.int 0 0, Value.int 3 0, Value.ref 97, Value.bool true, Value.int 181 0, Value.ref 98, Value.none, Value.ref 99, Value.ref 100, Value.ref 101, Value.int 327 0, Value.int 50 0, Value.str (Str.ofString "/claim/cut.py") 328] }
noncomputable def ob103 (P : Params) : Obj := { cls := Value.type "function", data := Data.func { name := Str.ofString "symbol_count", qualname := Str.ofString "Grammar.symbol_count", params := (fd2 9 1).1, body := FuncBody.stmts (fd2 9 1).2.1, scope := (fd2 9 1).2.2, globals := 3, closure := [], defaults := Value.none, kwdefaults := Value.none, pyModule := Value.str (Str.ofString "grammarmill.grammar") 250, code := Value.ref 102 } }
noncomputable def ob109 (P : Params) : Obj := { cls := Value.type "code", data := Data.fields #[Value.str (Str.ofString "is_terminal") 330, Value.str (Str.ofString "Grammar.is_terminal") 331, Value.str (Str.ofString "/claim/cut.py") 332, Value.int 53 0, Value.int 2 0, Value.int 0 0, Value.int 0 0, Value.int 3 0, Value.ref 104, Value.bool true, Value.int 181 0, Value.ref 105, Value.none, Value.ref 106, Value.ref 107, Value.ref 108, Value.int 335 0, Value.int 53 0, Value.str (Str.ofString "/claim/cut.py") 336] }
noncomputable def ob110 (P : Params) : Obj := { cls := Value.type "function", data := Data.func { name := Str.ofString "is_terminal", qualname := Str.ofString "Grammar.is_terminal", params := (fd2 9 2).1, body := FuncBody.stmts (fd2 9 2).2.1, scope := (fd2 9 2).2.2, globals := 3, closure := [], defaults := Value.none, kwdefaults := Value.none, pyModule := Value.str (Str.ofString "grammarmill.grammar") 250, code := Value.ref 109 } }
noncomputable def ob123 (P : Params) : Obj := { cls := Value.type "code", data := Data.fields #[Value.str (Str.ofString "number") 346, Value.str (Str.ofString "Grammar.number") 347, Value.str (Str.ofString "/claim/cut.py") 348, Value.int 59 0, Value.int 2 0, Value.int 0 0, Value.int 0 0, Value.int 3 0, Value.ref 118, Value.bool true, Value.int 181 0, Value.ref 119, Value.none, Value.ref 120, Value.ref 121, Value.ref 122, Value.int 351 0, Value.int 59 0, Value.str (Str.ofString "/claim/cut.py") 352] }
noncomputable def ob124 (P : Params) : Obj := { cls := Value.type "function", data := Data.func { name := Str.ofString "number", qualname := Str.ofString "Grammar.number", params := (fd2 9 4).1, body := FuncBody.stmts (fd2 9 4).2.1, scope := (fd2 9 4).2.2, globals := 3, closure := [], defaults := Value.none, kwdefaults := Value.none, pyModule := Value.str (Str.ofString "grammarmill.grammar") 250, code := Value.ref 123 } }
noncomputable def ob161 (P : Params) : Obj := { cls := Value.type "dict", data := Data.dict #[{ hash := PyData.keyHash P (Str.ofString "__module__"), key := Value.str (Str.ofString "__module__") 312, val := Value.str (Str.ofString "grammarmill.grammar") 250 }, { hash := PyData.keyHash P (Str.ofString "__firstlineno__"), key := Value.str (Str.ofString "__firstlineno__") 316, val := Value.int 32 315 }, { hash := PyData.keyHash P (Str.ofString "__init__"), key := Value.str (Str.ofString "__init__") 322, val := Value.ref 96 }, { hash := PyData.keyHash P (Str.ofString "symbol_count"), key := Value.str (Str.ofString "symbol_count") 329, val := Value.ref 103 }, { hash := PyData.keyHash P (Str.ofString "is_terminal"), key := Value.str (Str.ofString "is_terminal") 337, val := Value.ref 110 }, { hash := PyData.keyHash P (Str.ofString "is_middle"), key := Value.str (Str.ofString "is_middle") 345, val := Value.ref 117 }, { hash := PyData.keyHash P (Str.ofString "number"), key := Value.str (Str.ofString "number") 353, val := Value.ref 124 }, { hash := PyData.keyHash P (Str.ofString "rules_of"), key := Value.str (Str.ofString "rules_of") 361, val := Value.ref 131 }, { hash := PyData.keyHash P (Str.ofString "item"), key := Value.str (Str.ofString "item") 370, val := Value.ref 138 }, { hash := PyData.keyHash P (Str.ofString "rule_of"), key := Value.str (Str.ofString "rule_of") 378, val := Value.ref 145 }, { hash := PyData.keyHash P (Str.ofString "dot_of"), key := Value.str (Str.ofString "dot_of") 386, val := Value.ref 152 }, { hash := PyData.keyHash P (Str.ofString "after"), key := Value.str (Str.ofString "after") 394, val := Value.ref 159 }, { hash := PyData.keyHash P (Str.ofString "__static_attributes__"), key := Value.str (Str.ofString "__static_attributes__") 405, val := Value.ref 160 }, { hash := PyData.keyHash P (Str.ofString "__dict__"), key := Value.str (Str.ofString "__dict__") 407, val := Value.ref 163 }, { hash := PyData.keyHash P (Str.ofString "__weakref__"), key := Value.str (Str.ofString "__weakref__") 409, val := Value.ref 164 }, { hash := PyData.keyHash P (Str.ofString "__doc__"), key := Value.str (Str.ofString "__doc__") 410, val := Value.none }] 4 }
noncomputable def ob162 (P : Params) : Obj := { cls := Value.type "type", data := Data.cls { name := Str.ofString "Grammar", bases := [Value.type "object"], mro := [Value.ref 162, Value.type "object"], ns := 161, qualname := Str.ofString "Grammar" }, slots := #[none, none, some (Value.str (Str.ofString "Grammar") 305), some (Value.str (Str.ofString "Grammar") 313), some (Value.builtin "object.__new__"), some (Value.bool true)] }
noncomputable def ob172 (P : Params) : Obj := { cls := Value.type "code", data := Data.fields #[Value.str (Str.ofString "last_terminal") 413, Value.str (Str.ofString "last_terminal") 414, Value.str (Str.ofString "/claim/cut.py") 415, Value.int 76 0, Value.int 2 0, Value.int 0 0, Value.int 0 0, Value.int 3 0, Value.ref 167, Value.bool true, Value.int 181 0, Value.ref 168, Value.none, Value.ref 169, Value.ref 170, Value.ref 171, Value.int 420 0, Value.int 76 0, Value.str (Str.ofString "/claim/cut.py") 421] }
noncomputable def ob173 (P : Params) : Obj := { cls := Value.type "function", data := Data.func { name := Str.ofString "last_terminal", qualname := Str.ofString "last_terminal", params := (fd1 10).1, body := FuncBody.stmts (fd1 10).2.1, scope := (fd1 10).2.2, globals := 3, closure := [], defaults := Value.none, kwdefaults := Value.none, pyModule := Value.str (Str.ofString "grammarmill.grammar") 250, code := Value.ref 172 } }
noncomputable def ob178 (P : Params) : Obj := { cls := Value.type "code", data := Data.fields #[Value.str (Str.ofString "plain_grammar") 423, Value.str (Str.ofString "plain_grammar") 424, Value.str (Str.ofString "/claim/cut.py") 425, Value.int 82 0, Value.int 2 0, Value.int 0 0, Value.int 0 0, Value.int 3 0, Value.ref 175, Value.bool true, Value.int 181 0, Value.ref 176, Value.none, Value.none, Value.none, Value.ref 177, Value.int 426 0, Value.int 82 0, Value.str (Str.ofString "/claim/cut.py") 427] }
noncomputable def ob179 (P : Params) : Obj := { cls := Value.type "function", data := Data.func { name := Str.ofString "plain_grammar", qualname := Str.ofString "plain_grammar", params := (fd1 11).1, body := FuncBody.stmts (fd1 11).2.1, scope := (fd1 11).2.2, globals := 3, closure := [], defaults := Value.ref 174, kwdefaults := Value.none, pyModule := Value.str (Str.ofString "grammarmill.grammar") 250, code := Value.ref 178 } }
noncomputable def ob185 (P : Params) : Obj := { cls := Value.type "code", data := Data.fields #[Value.str (Str.ofString "joined_words") 433, Value.str (Str.ofString "joined_words") 434, Value.str (Str.ofString "/claim/cut.py") 435, Value.int 109 0, Value.int 2 0, Value.int 0 0, Value.int 0 0, Value.int 3 0, Value.ref 180, Value.bool true, Value.int 181 0, Value.ref 181, Value.none, Value.ref 182, Value.ref 183, Value.ref 184, Value.int 440 0, Value.int 109 0, Value.str (Str.ofString "/claim/cut.py") 441] }
noncomputable def ob186 (P : Params) : Obj := { cls := Value.type "function", data := Data.func { name := Str.ofString "joined_words", qualname := Str.ofString "joined_words", params := (fd1 14).1, body := FuncBody.stmts (fd1 14).2.1, scope := (fd1 14).2.2, globals := 3, closure := [], defaults := Value.none, kwdefaults := Value.none, pyModule := Value.str (Str.ofString "grammarmill.analysis") 429, code := Value.ref 185 } }
noncomputable def ob192 (P : Params) : Obj := { cls := Value.type "code", data := Data.fields #[Value.str (Str.ofString "joined_length") 443, Value.str (Str.ofString "joined_length") 444, Value.str (Str.ofString "/claim/cut.py") 445, Value.int 116 0, Value.int 2 0, Value.int 0 0, Value.int 0 0, Value.int 3 0, Value.ref 187, Value.bool true, Value.int 181 0, Value.ref 188, Value.none, Value.ref 189, Value.ref 190, Value.ref 191, Value.int 450 0, Value.int 116 0, Value.str (Str.ofString "/claim/cut.py") 451] }
noncomputable def ob193 (P : Params) : Obj := { cls := Value.type "function", data := Data.func { name := Str.ofString "joined_length", qualname := Str.ofString "joined_length", params := (fd1 15).1, body := FuncBody.stmts (fd1 15).2.1, scope := (fd1 15).2.2, globals := 3, closure := [], defaults := Value.none, kwdefaults := Value.none, pyModule := Value.str (Str.ofString "grammarmill.analysis") 429, code := Value.ref 192 } }
noncomputable def ob199 (P : Params) : Obj := { cls := Value.type "code", data := Data.fields #[Value.str (Str.ofString "least_rules") 453, Value.str (Str.ofString "least_rules") 454, Value.str (Str.ofString "/claim/cut.py") 455, Value.int 123 0, Value.int 1 0, Value.int 0 0, Value.int 0 0, Value.int 3 0, Value.ref 194, Value.bool true, Value.int 181 0, Value.ref 195, Value.none, Value.ref 196, Value.ref 197, Value.ref 198, Value.int 463 0, Value.int 123 0, Value.str (Str.ofString "/claim/cut.py") 464] }
noncomputable def ob200 (P : Params) : Obj := { cls := Value.type "function", data := Data.func { name := Str.ofString "least_rules", qualname := Str.ofString "least_rules", params := (fd1 16).1, body := FuncBody.stmts (fd1 16).2.1, scope := (fd1 16).2.2, globals := 3, closure := [], defaults := Value.none, kwdefaults := Value.none, pyModule := Value.str (Str.ofString "grammarmill.analysis") 429, code := Value.ref 199 } }
noncomputable def ob206 (P : Params) : Obj := { cls := Value.type "code", data := Data.fields #[Value.str (Str.ofString "least_words") 466, Value.str (Str.ofString "least_words") 467, Value.str (Str.ofString "/claim/cut.py") 468, Value.int 139 0, Value.int 1 0, Value.int 0 0, Value.int 0 0, Value.int 3 0, Value.ref 201, Value.bool true, Value.int 181 0, Value.ref 202, Value.none, Value.ref 203, Value.ref 204, Value.ref 205, Value.int 475 0, Value.int 139 0, Value.str (Str.ofString "/claim/cut.py") 476] }
noncomputable def ob207 (P : Params) : Obj := { cls := Value.type "function", data := Data.func { name := Str.ofString "least_words", qualname := Str.ofString "least_words", params := (fd1 17).1, body := FuncBody.stmts (fd1 17).2.1, scope := (fd1 17).2.2, globals := 3, closure := [], defaults := Value.none, kwdefaults := Value.none, pyModule := Value.str (Str.ofString "grammarmill.analysis") 429, code := Value.ref 206 } }
noncomputable def ob213 (P : Params) : Obj := { cls := Value.type "code", data := Data.fields #[Value.str (Str.ofString "least_sentence") 478, Value.str (Str.ofString "least_sentence") 479, Value.str (Str.ofString "/claim/cut.py") 480, Value.int 148 0, Value.int 2 0, Value.int 0 0, Value.int 0 0, Value.int 3 0, Value.ref 208, Value.bool true, Value.int 181 0, Value.ref 209, Value.none, Value.ref 210, Value.ref 211, Value.ref 212, Value.int 483 0, Value.int 148 0, Value.str (Str.ofString "/claim/cut.py") 484] }
noncomputable def ob214 (P : Params) : Obj := { cls := Value.type "function", data := Data.func { name := Str.ofString "least_sentence", qualname := Str.ofString "least_sentence", params := (fd1 18).1, body := FuncBody.stmts (fd1 18).2.1, scope := (fd1 18).2.2, globals := 3, closure := [], defaults := Value.none, kwdefaults := Value.none, pyModule := Value.str (Str.ofString "grammarmill.analysis") 429, code := Value.ref 213 } }
noncomputable def ob220 (P : Params) : Obj := { cls := Value.type "code", data := Data.fields #[Value.str (Str.ofString "_law_tape") 488, Value.str (Str.ofString "_law_tape") 489, Value.str (Str.ofString "/claim/cut.py") 490, Value.int 151 0, Value.int 1 0, Value.int 0 0, Value.int 0 0, Value.int 3 0, Value.ref 215, Value.bool true, Value.int 181 0, Value.ref 216, Value.none, Value.ref 217, Value.ref 218, Value.ref 219, Value.int 495 0, Value.int 151 0, Value.str (Str.ofString "/claim/cut.py") 496] }
noncomputable def ob221 (P : Params) : Obj := { cls := Value.type "function", data := Data.func { name := Str.ofString "_law_tape", qualname := Str.ofString "_law_tape", params := (fd1 20).1, body := FuncBody.stmts (fd1 20).2.1, scope := (fd1 20).2.2, globals := 3, closure := [], defaults := Value.none, kwdefaults := Value.none, pyModule := Value.str (Str.ofString "law_qd0057_01") 486, code := Value.ref 220 } }
noncomputable def ob227 (P : Params) : Obj := { cls := Value.type "code", data := Data.fields #[Value.str (Str.ofString "_law_draw") 498, Value.str (Str.ofString "_law_draw") 499, Value.str (Str.ofString "/claim/cut.py") 500, Value.int 157 0, Value.int 2 0, Value.int 0 0, Value.int 0 0, Value.int 3 0, Value.ref 222, Value.bool true, Value.int 181 0, Value.ref 223, Value.none, Value.ref 224, Value.ref 225, Value.ref 226, Value.int 504 0, Value.int 157 0, Value.str (Str.ofString "/claim/cut.py") 505] }
noncomputable def ob228 (P : Params) : Obj := { cls := Value.type "function", data := Data.func { name := Str.ofString "_law_draw", qualname := Str.ofString "_law_draw", params := (fd1 21).1, body := FuncBody.stmts (fd1 21).2.1, scope := (fd1 21).2.2, globals := 3, closure := [], defaults := Value.none, kwdefaults := Value.none, pyModule := Value.str (Str.ofString "law_qd0057_01") 486, code := Value.ref 227 } }
noncomputable def ob232 (P : Params) : Obj := { cls := Value.type "code", data := Data.fields #[Value.str (Str.ofString "_law_bits") 507, Value.str (Str.ofString "_law_bits") 508, Value.str (Str.ofString "/claim/cut.py") 509, Value.int 164 0, Value.int 1 0, Value.int 0 0, Value.int 0 0, Value.int 3 0, Value.ref 229, Value.bool true, Value.int 181 0, Value.ref 230, Value.none, Value.none, Value.none, Value.ref 231, Value.int 510 0, Value.int 164 0, Value.str (Str.ofString "/claim/cut.py") 511] }
noncomputable def ob233 (P : Params) : Obj := { cls := Value.type "function", data := Data.func { name := Str.ofString "_law_bits", qualname := Str.ofString "_law_bits", params := (fd1 22).1, body := FuncBody.stmts (fd1 22).2.1, scope := (fd1 22).2.2, globals := 3, closure := [], defaults := Value.none, kwdefaults := Value.none, pyModule := Value.str (Str.ofString "law_qd0057_01") 486, code := Value.ref 232 } }
noncomputable def ob237 (P : Params) : Obj := { cls := Value.type "code", data := Data.fields #[Value.str (Str.ofString "_law_grammar") 513, Value.str (Str.ofString "_law_grammar") 514, Value.str (Str.ofString "/claim/cut.py") 515, Value.int 166 0, Value.int 1 0, Value.int 0 0, Value.int 0 0, Value.int 3 0, Value.ref 234, Value.bool true, Value.int 181 0, Value.ref 235, Value.none, Value.none, Value.none, Value.ref 236, Value.int 516 0, Value.int 166 0, Value.str (Str.ofString "/claim/cut.py") 517] }
noncomputable def ob238 (P : Params) : Obj := { cls := Value.type "function", data := Data.func { name := Str.ofString "_law_grammar", qualname := Str.ofString "_law_grammar", params := (fd1 23).1, body := FuncBody.stmts (fd1 23).2.1, scope := (fd1 23).2.2, globals := 3, closure := [], defaults := Value.none, kwdefaults := Value.none, pyModule := Value.str (Str.ofString "law_qd0057_01") 486, code := Value.ref 237 } }
noncomputable def ob242 (P : Params) : Obj := { cls := Value.type "code", data := Data.fields #[Value.str (Str.ofString "law") 519, Value.str (Str.ofString "law") 520, Value.str (Str.ofString "/claim/cut.py") 521, Value.int 183 0, Value.int 1 0, Value.int 0 0, Value.int 0 0, Value.int 3 0, Value.ref 239, Value.bool true, Value.int 181 0, Value.ref 240, Value.none, Value.none, Value.none, Value.ref 241, Value.int 522 0, Value.int 183 0, Value.str (Str.ofString "/claim/cut.py") 523] }
noncomputable def ob243 (P : Params) : Obj := { cls := Value.type "function", data := Data.func { name := Str.ofString "law", qualname := Str.ofString "law", params := (fd1 24).1, body := FuncBody.stmts (fd1 24).2.1, scope := (fd1 24).2.2, globals := 3, closure := [], defaults := Value.none, kwdefaults := Value.none, pyModule := Value.str (Str.ofString "law_qd0057_01") 486, code := Value.ref 242 } }
noncomputable def myK (P : Params) : Frag := [(3, ob3 P), (62, ob62 P), (70, ob70 P), (174, ob174 P), (76, ob76 P), (77, ob77 P), (79, ob79 P), (80, ob80 P), (95, ob95 P), (96, ob96 P), (102, ob102 P), (103, ob103 P), (109, ob109 P), (110, ob110 P), (123, ob123 P), (124, ob124 P), (161, ob161 P), (162, ob162 P), (172, ob172 P), (173, ob173 P), (178, ob178 P), (179, ob179 P), (185, ob185 P), (186, ob186 P), (192, ob192 P), (193, ob193 P), (199, ob199 P), (200, ob200 P), (206, ob206 P), (207, ob207 P), (213, ob213 P), (214, ob214 P), (220, ob220 P), (221, ob221 P), (227, ob227 P), (228, ob228 P), (232, ob232 P), (233, ob233 P), (237, ob237 P), (238, ob238 P), (242, ob242 P), (243, ob243 P)]
def myAs : List Addr := [3, 62, 70, 174, 76, 77, 79, 80, 95, 96, 102, 103, 109, 110, 123, 124, 161, 162, 172, 173, 178, 179, 185, 186, 192, 193, 199, 200, 206, 207, 213, 214, 220, 221, 227, 228, 232, 233, 237, 238, 242, 243]
end Mine
end
section
open PySem PySem.W PyProof.Rows
namespace Mine
theorem myE : ∀ P, myAs = (myK P).map (·.1) := fun _ => rfl
def myV : Program := view PySem.Challenge.rw_qd0057_01.row.prog [0, 2, 3, 5, 6, 7, 8, 9, 10, 13, 14, 15, 16, 17, 18, 20, 21, 22, 23, 24]
abbrev myL : List Str := [Str.ofString "ToolError", Str.ofString "plain_grammar"]
set_option maxRecDepth 100000 in
set_option maxHeartbeats 8000000 in
theorem left : LeftO PySem.Challenge.rw_qd0057_01.row.prog myV myL (fun s => xlAt myV [] s && recOk (RowW.records PySem.Challenge.rw_qd0057_01.row.toRowW) s) (Hook.obs (kHook myK myAs myE)) (Hook.val (kHook myK myAs myE)) 3528 := fun w => by
  unfold openEnds topFrom fencedOpening
  -- the library's quick twins of what the head runs: half the kernel's work; where a name should not stand, the slow road
  first | rw [PySem.W.Fast.te14082659384304107361] | skip
  first | rw [PySem.W.Fast.te14364793385576792824] | skip
  first | rw [PySem.W.Fast.te10274390034422433532] | skip
  first | rw [PySem.W.Fast.te14289696077712309145] | skip
  first | rw [PySem.W.Fast.te1435165496053646825] | skip
  first | rw [PySem.W.Fast.te5923862056798008813] | skip
  first | rw [PySem.W.Fast.te4187177175401517315] | skip
  kernel_rfl
set_option maxRecDepth 100000 in
set_option maxHeartbeats 8000000 in
theorem head (walk : ∀ (q : Program) (loose : List Str) (XP : (Str → Option Value) → Heap → Prop) (d : DefRec) (kwd : List (Str × Expr)), d.name = "law" →
    WalkO q loose XP (kHook myK myAs myE).says PySem.Challenge.rw_qd0057_01.row.toRowW d kwd fun f vs => PySem.call f vs) : PySem.Challenge.rw_qd0057_01.Holds := by
  w_on
  o_law
  refine holds_open (q := myV) (loose := myL) (Xt := fun s => xlAt myV [] s && recOk (RowW.records PySem.Challenge.rw_qd0057_01.row.toRowW) s) (XP := XL myV []) (Yf := Hook.obs (kHook myK myAs myE)) (Ya := Hook.val (kHook myK myAs myE)) (YP := Hook.says (kHook myK myAs myE)) (N := 3528) left (Hook.of (kHook myK myAs myE)) (Hook.keeps (kHook myK myAs myE)) (fun s e => xl_of s (Bool.and_eq_true_iff.mp e).1) XL.keeps (by rfl) (by rfl) (by rfl) (fun s e => recFacts_of (Bool.and_eq_true_iff.mp e).2) (by rfl) (by assumption) (by decide +kernel) ⟨rfl, rfl, rfl, rfl, rfl, by decide +kernel⟩ ?hw ?hc
  (case hw => w_witness2)
  exact walk _ _ _ _ _ rfl
end Mine
end
section
open PySem PySem.W PySem.Calls PyProof.Rows
namespace Mine
/-- every object of the first heap stands in the second -/
def Hk (h h' : Heap) : Prop := ∀ b o, h.get? b = some o → h'.get? b = some o
theorem Hk.refl (h : Heap) : Hk h h := fun _ _ e => e
theorem Hk.trans {a b c : Heap} (x : Hk a b) (y : Hk b c) : Hk a c := fun _ _ e => y _ _ (x _ _ e)
theorem Hk.push (h : Heap) (o : Obj) : Hk h (h.push o) := fun _ _ e => Heap.get?_push_of_some _ e

/-- the heap h less what stood in h0 and not in g0: what one may hand on -/
def mask (g0 h0 h : Heap) : Heap := hideAll h ((List.range h0.objs.size).filter fun b => (h0.get? b).isSome && (g0.get? b).isNone)
theorem mask_get {g0 h0 h : Heap} {b : Addr} {o : Obj} (e : h.get? b = some o) (hb : (∃ o', g0.get? b = some o') ∨ h0.get? b = none) : (mask g0 h0 h).get? b = some o := by
  refine hideAll_get _ e fun hm => ?_
  simp only [List.mem_filter, List.mem_range, Bool.and_eq_true, Option.isSome_iff_ne_none, Option.isNone_iff_eq_none] at hm
  rcases hb with ⟨o', ho'⟩ | hb
  · rw [hm.2.2] at ho'; cases ho'
  · exact hm.2.1 hb
theorem mask_sub {g0 h0 h : Heap} : Hk (mask g0 h0 h) h := fun _ _ e => of_hideAll _ e
theorem mask_or {g0 h0 h : Heap} {b : Addr} {o : Obj} (e : (mask g0 h0 h).get? b = some o) : (∃ o', g0.get? b = some o') ∨ h0.get? b = none := by
  cases hg : g0.get? b with
  | some o' => exact .inl ⟨o', rfl⟩
  | none =>
    cases hh : h0.get? b with
    | none => exact .inr rfl
    | some o' =>
      exfalso
      have := hideAll_none ((List.range h0.objs.size).filter fun b => (h0.get? b).isSome && (g0.get? b).isNone) (h := h) (b := b) (by
        simp only [List.mem_filter, List.mem_range, Bool.and_eq_true, Option.isSome_iff_ne_none, Option.isNone_iff_eq_none]
        exact ⟨Heap.lt_size hh, by rw [hh]; simp, hg⟩)
      unfold mask at e
      rw [this] at e; cases e

/-- what a call leaves: g' holds what is handed on (out of g0 and what is new since h0); fr: the arguments that it turned -/
structure Out (fr : List Addr) (g0 h0 g' h' : Heap) : Prop where
  old : Hk g0 g'
  now : Hk g' h'
  new : ∀ b o, g'.get? b = some o → (∃ o', g0.get? b = some o') ∨ h0.get? b = none
  keep : ∀ b o, b ∉ fr → h0.get? b = some o → h'.get? b = some o
  live : ∀ b o, h0.get? b = some o → ∃ o', h'.get? b = some o'

/-- the frame at hand. g: what stands still; led: what may turn (addresses and what is known of the objects) -/
structure Fx (fr : List Addr) (g0 h0 : Heap) (g : Heap) (L : Addr) (h : Heap) (m : Str → Option Value) (led : List (Addr × (Obj → Prop))) : Prop extends Out fr g0 h0 g h where
  ns : h.Ns L m
  off : g.get? L = none
  off0 : h0.get? L = none
  led_ : ∀ p ∈ led, (∃ o, h.get? p.1 = some o ∧ p.2 o) ∧ p.1 ≠ L ∧ g.get? p.1 = none ∧ (h0.get? p.1 = none ∨ p.1 ∈ fr)
  nd : (led.map (·.1)).Nodup

section
variable {fr : List Addr} {g0 h0 g : Heap} {L : Addr} {h h' : Heap} {m m' : Str → Option Value} {led : List (Addr × (Obj → Prop))} {a : Addr} {P P' : Obj → Prop}

/-- a store into the frame's own map -/
theorem Fx.set (X : Fx fr g0 h0 g L h m led) (hn : h'.Ns L m') (hs : Heap.SameBut L h h') : Fx fr g0 h0 g L h' m' led where
  old := X.old
  now := fun b o e => (hs.2 b fun q => by rw [q, X.off] at e; cases e).trans (X.now b o e)
  new := X.new
  keep := fun b o hb e => (hs.2 b fun q => by rw [q, X.off0] at e; cases e).trans (X.keep b o hb e)
  live := fun b o e => by
    obtain ⟨o', ho'⟩ := X.live b o e
    exact ⟨o', (hs.2 b fun q => by rw [q, X.off0] at e; cases e).trans ho'⟩
  ns := hn
  off := X.off
  off0 := X.off0
  led_ := fun p hp => by
    obtain ⟨⟨o, ho, hP⟩, hL, r⟩ := X.led_ p hp
    exact ⟨⟨o, (hs.2 p.1 hL).trans ho, hP⟩, hL, r⟩
  nd := X.nd

theorem Fx.at (X : Fx fr g0 h0 g L h m led) (hm : (a, P) ∈ led) : ∃ o, h.get? a = some o ∧ P o := (X.led_ _ hm).1

theorem Fx.fresh_ne (X : Fx fr g0 h0 g L h m led) (ha : h.get? a = none) : a ≠ L ∧ g.get? a = none ∧ h0.get? a = none ∧ ∀ p ∈ led, p.1 ≠ a := by
  obtain ⟨oL, es, ep, hL, _⟩ := X.ns
  refine ⟨fun q => (by rw [q, hL] at ha; cases ha), ?_, ?_, fun p hp q => ?_⟩
  · cases hg : g.get? a with
    | none => rfl
    | some o => rw [X.now _ _ hg] at ha; cases ha
  · cases hg : h0.get? a with
    | none => rfl
    | some o => obtain ⟨o', ho'⟩ := X.live _ _ hg; rw [ho'] at ha; cases ha
  · obtain ⟨⟨o, ho, _⟩, _⟩ := X.led_ p hp
    rw [q, ha] at ho; cases ho

theorem size_none (h : Heap) : h.get? h.objs.size = none := by
  cases e : h.get? h.objs.size with
  | none => rfl
  | some o => exact absurd (Heap.lt_size e) (Nat.lt_irrefl _)

/-- all stood still, g as it was -/
theorem Fx.keeps (X : Fx fr g0 h0 g L h m led) (hk : Hk h h') : Fx fr g0 h0 g L h' m led where
  old := X.old
  now := X.now.trans hk
  new := X.new
  keep := fun b o hb e => hk _ _ (X.keep b o hb e)
  live := fun b o e => let ⟨o', ho'⟩ := X.live b o e; ⟨o', hk _ _ ho'⟩
  ns := X.ns.keeps hk
  off := X.off
  off0 := X.off0
  led_ := fun p hp => let ⟨⟨o, ho, hP⟩, r⟩ := X.led_ p hp; ⟨⟨o, hk _ _ ho, hP⟩, r⟩
  nd := X.nd

/-- a new object, to the ledger -/
theorem Fx.add {o : Obj} (X : Fx fr g0 h0 g L h m led) (hk : Hk h h') (ha : h.get? a = none) (ho : h'.get? a = some o) (hP : P o) : Fx fr g0 h0 g L h' m ((a, P) :: led) where
  toOut := (X.keeps hk).toOut
  ns := X.ns.keeps hk
  off := X.off
  off0 := X.off0
  led_ := fun p hp => by
    obtain ⟨h1, h2, h3, _⟩ := X.fresh_ne ha
    rcases List.mem_cons.mp hp with rfl | hp
    · exact ⟨⟨o, ho, hP⟩, h1, h2, .inl h3⟩
    · exact (X.keeps hk).led_ p hp
  nd := by
    rw [List.map_cons, List.nodup_cons]
    refine ⟨fun q => ?_, X.nd⟩
    obtain ⟨p, hp, e⟩ := List.mem_map.mp q
    exact (X.fresh_ne ha).2.2.2 p hp e

/-- forget the ledger's first -/
theorem Fx.drop {p : Addr × (Obj → Prop)} (X : Fx fr g0 h0 g L h m (p :: led)) : Fx fr g0 h0 g L h m led :=
  ⟨X.toOut, X.ns, X.off, X.off0, fun q hq => X.led_ q (List.mem_cons_of_mem _ hq), (List.nodup_cons.mp X.nd).2⟩
theorem Fx.sub {led' : List (Addr × (Obj → Prop))} (X : Fx fr g0 h0 g L h m led) (hs : ∀ p ∈ led', p ∈ led) (hn : (led'.map (·.1)).Nodup) : Fx fr g0 h0 g L h m led' :=
  ⟨X.toOut, X.ns, X.off, X.off0, fun q hq => X.led_ q (hs q hq), hn⟩
theorem Fx.imp0 (X : Fx fr g0 h0 g L h m ((a, P) :: led)) (hP : ∀ o, P o → P' o) : Fx fr g0 h0 g L h m ((a, P') :: led) :=
  ⟨X.toOut, X.ns, X.off, X.off0, fun q hq => by
    rcases List.mem_cons.mp hq with rfl | hq
    · obtain ⟨⟨o, ho, hp⟩, r⟩ := X.led_ (a, P) List.mem_cons_self; exact ⟨⟨o, ho, hP o hp⟩, r⟩
    · exact X.led_ q (List.mem_cons_of_mem _ hq), X.nd⟩
theorem Fx.swap {p q : Addr × (Obj → Prop)} (X : Fx fr g0 h0 g L h m (p :: q :: led)) : Fx fr g0 h0 g L h m (q :: p :: led) :=
  X.sub (led' := q :: p :: led) (fun r hr => by simp only [List.mem_cons] at hr ⊢; rcases hr with h | h | h <;> simp [h]) (by
    have := X.nd
    simp only [List.map_cons, List.nodup_cons, List.mem_cons, not_or] at this ⊢
    exact ⟨⟨Ne.symm this.1.1, this.2.1⟩, this.1.2, this.2.2⟩)
theorem Fx.rot {p q r : Addr × (Obj → Prop)} (X : Fx fr g0 h0 g L h m (p :: q :: r :: led)) : Fx fr g0 h0 g L h m (r :: p :: q :: led) :=
  X.sub (led' := r :: p :: q :: led) (fun x hr => by simp only [List.mem_cons] at hr ⊢; rcases hr with h | h | h | h <;> simp [h]) (by
    have := X.nd
    simp only [List.map_cons, List.nodup_cons, List.mem_cons, not_or] at this ⊢
    exact ⟨⟨Ne.symm this.1.2.1, Ne.symm this.2.1.1, this.2.2.1⟩, ⟨this.1.1, this.1.2.2⟩, this.2.1.2, this.2.2.2⟩)

/-- the ledger's first turned, the rest kept or grown -/
theorem Fx.turn (X : Fx fr g0 h0 g L h m ((a, P) :: led)) (hk : ∀ b o, b ≠ a → h.get? b = some o → h'.get? b = some o) (ho : ∃ o, h'.get? a = some o ∧ P' o) : Fx fr g0 h0 g L h' m ((a, P') :: led) := by
  obtain ⟨_, hL, hg, h0'⟩ := X.led_ (a, P) List.mem_cons_self
  have nd := List.nodup_cons.mp X.nd
  refine ⟨⟨X.old, fun b o e => hk b o (fun q => by rw [q, hg] at e; cases e) (X.now b o e), X.new, fun b o hb e => ?_, fun b o e => ?_⟩, X.ns.at' fun o e => hk L o (Ne.symm hL) e, X.off, X.off0, fun q hq => ?_, X.nd⟩
  · by_cases q : b = a
    · rcases h0' with h | h
      · rw [q, h] at e; cases e
      · exact absurd (q ▸ h) hb
    · exact hk b o q (X.keep b o hb e)
  · obtain ⟨o', ho'⟩ := X.live b o e
    by_cases q : b = a
    · obtain ⟨o2, h2, _⟩ := ho; exact ⟨o2, q ▸ h2⟩
    · exact ⟨o', hk b o' q ho'⟩
  · rcases List.mem_cons.mp hq with rfl | hq
    · exact ⟨ho, hL, hg, h0'⟩
    · obtain ⟨⟨o, e, hp⟩, r⟩ := X.led_ q (List.mem_cons_of_mem _ hq)
      exact ⟨⟨o, hk q.1 o (fun z => nd.1 (List.mem_map.mpr ⟨q, hq, z⟩)) e, hp⟩, r⟩
theorem Fx.turnS (X : Fx fr g0 h0 g L h m ((a, P) :: led)) (hs : Heap.SameBut a h h') (ho : ∃ o, h'.get? a = some o ∧ P' o) : Fx fr g0 h0 g L h' m ((a, P') :: led) :=
  X.turn (fun b _ hb e => (hs.2 b hb).trans e) ho
theorem Fx.turnS1 {p : Addr × (Obj → Prop)} (X : Fx fr g0 h0 g L h m (p :: (a, P) :: led)) (hs : Heap.SameBut a h h') (ho : ∃ o, h'.get? a = some o ∧ P' o) : Fx fr g0 h0 g L h' m (p :: (a, P') :: led) :=
  (X.swap.turnS hs ho).swap

/-- g grows by all that stands and does not turn -/
theorem Fx.grow (X : Fx fr g0 h0 g L h m led) : ∃ g', Hk g g' ∧ Fx fr g0 h0 g' L h m led ∧ ∀ b o, h.get? b = some o → b ≠ L → (∀ p ∈ led, p.1 ≠ b) → h0.get? b = none → g'.get? b = some o := by
  generalize hH : (L :: led.map (·.1)) ++ (List.range h.objs.size).filter (fun b => (h0.get? b).isSome && (g.get? b).isNone) = H
  have hin : ∀ b o, g.get? b = some o → b ∉ H := fun b o e hb => by
    rw [← hH] at hb
    rcases List.mem_append.mp hb with hb | hb
    · rcases List.mem_cons.mp hb with rfl | hb
      · rw [X.off] at e; cases e
      · obtain ⟨p, hp, rfl⟩ := List.mem_map.mp hb
        rw [(X.led_ p hp).2.2.1] at e; cases e
    · simp [e] at hb
  have hL : L ∈ H := by rw [← hH]; simp
  have hled : ∀ p ∈ led, p.1 ∈ H := fun p hp => by
    rw [← hH]; exact List.mem_append_left _ (List.mem_cons_of_mem _ (List.mem_map_of_mem hp))
  have hk : Hk g (hideAll h H) := fun b o e => hideAll_get _ (X.now b o e) (hin b o e)
  refine ⟨hideAll h H, hk, ⟨⟨X.old.trans hk, fun b o e => of_hideAll _ e, fun b o e => ?_, X.keep, X.live⟩, X.ns, hideAll_none _ hL, X.off0, fun p hp => ?_, X.nd⟩, fun b o e h1 h2 h3 => hideAll_get _ e fun hb => ?_⟩
  · cases hh : h0.get? b with
    | none => exact .inr rfl
    | some o' =>
      cases hg : g.get? b with
      | some o2 => exact (X.new b o2 hg).imp_right fun z => by rw [hh] at z; cases z
      | none =>
        exfalso
        have hb : b ∈ H := by
          rw [← hH]
          refine List.mem_append_right _ ?_
          simp only [List.mem_filter, List.mem_range, hh, hg]
          exact ⟨Heap.lt_size (of_hideAll _ e), rfl⟩
        rw [hideAll_none _ hb] at e; cases e
  · obtain ⟨a1, a2, a3, a4⟩ := X.led_ p hp
    exact ⟨a1, a2, hideAll_none _ (hled p hp), a4⟩
  · rw [← hH] at hb
    rcases List.mem_append.mp hb with hb | hb
    · rcases List.mem_cons.mp hb with rfl | hb
      · exact h1 rfl
      · obtain ⟨p, hp, e'⟩ := List.mem_map.mp hb
        exact h2 p hp e'
    · simp [h3] at hb

/-- the ledger's first stands still from now on -/
theorem Fx.freeze (X : Fx fr g0 h0 g L h m ((a, P) :: led)) (ha : a ∉ fr) : ∃ g', Hk g g' ∧ (∃ o, g'.get? a = some o ∧ P o) ∧ Fx fr g0 h0 g' L h m led := by
  obtain ⟨⟨o, ho, hP⟩, h1, _, h3⟩ := X.led_ (a, P) List.mem_cons_self
  obtain ⟨g', hk, Y, hall⟩ := X.drop.grow
  have nd := List.nodup_cons.mp X.nd
  exact ⟨g', hk, ⟨o, hall a o ho h1 (fun p hp q => nd.1 (List.mem_map.mpr ⟨p, hp, q⟩)) (h3.resolve_right ha), hP⟩, Y⟩

/-- behind a call that turned nothing of ours -/
theorem Fx.out {g1 h1 : Heap} (X : Fx fr g0 h0 g L h m led) (O : Out [] g h g1 h1) : Fx fr g0 h0 g1 L h1 m led := by
  have hk : Hk h h1 := fun b o e => O.keep b o (by simp) e
  have Y := X.keeps hk
  have hn : ∀ b o, h.get? b = some o → g.get? b = none → g1.get? b = none := fun b o e en => by
    cases e1 : g1.get? b with
    | none => rfl
    | some o1 =>
      rcases O.new b o1 e1 with ⟨o', h'⟩ | h'
      · rw [en] at h'; cases h'
      · rw [e] at h'; cases h'
  obtain ⟨oL, es, ep, hL, _⟩ := X.ns
  refine ⟨⟨X.old.trans O.old, O.now, fun b o e => ?_, Y.keep, Y.live⟩, Y.ns, hn L oL hL X.off, X.off0, fun p hp => ?_, X.nd⟩
  · rcases O.new b o e with ⟨o', h'⟩ | h'
    · exact X.new b o' h'
    · refine .inr ?_
      cases e0 : h0.get? b with
      | none => rfl
      | some o0 => obtain ⟨o', ho'⟩ := X.live b o0 e0; rw [h'] at ho'; cases ho'
  · obtain ⟨⟨o, ho, hP⟩, a2, a3, a4⟩ := X.led_ p hp
    exact ⟨⟨o, hk _ _ ho, hP⟩, a2, hn p.1 o ho a3, a4⟩

/-- behind a call that turned the ledger's first -/
theorem Fx.outT {g1 h1 : Heap} (X : Fx fr g0 h0 g L h m ((a, P) :: led)) (O : Out [a] g h g1 h1) (ho : ∃ o, h1.get? a = some o ∧ P' o) : Fx fr g0 h0 g1 L h1 m ((a, P') :: led) := by
  have Y := X.turn (h' := h1) (P' := P') (fun b o hb e => O.keep b o (by simpa using hb) e) ho
  have hn : ∀ b o, h.get? b = some o → g.get? b = none → g1.get? b = none := fun b o e en => by
    cases e1 : g1.get? b with
    | none => rfl
    | some o1 =>
      rcases O.new b o1 e1 with ⟨o', h'⟩ | h'
      · rw [en] at h'; cases h'
      · rw [e] at h'; cases h'
  obtain ⟨oL, es, ep, hL, _⟩ := X.ns
  refine ⟨⟨X.old.trans O.old, O.now, fun b o e => ?_, Y.keep, Y.live⟩, Y.ns, hn L oL hL X.off, X.off0, fun p hp => ?_, X.nd⟩
  · rcases O.new b o e with ⟨o', h'⟩ | h'
    · exact X.new b o' h'
    · refine .inr ?_
      cases e0 : h0.get? b with
      | none => rfl
      | some o0 => obtain ⟨o', ho'⟩ := X.live b o0 e0; rw [h'] at ho'; cases ho'
  · obtain ⟨b1, b2, _, b4⟩ := Y.led_ p hp
    refine ⟨b1, b2, ?_, b4⟩
    rcases List.mem_cons.mp hp with rfl | hp
    · obtain ⟨⟨o, ho, _⟩, _, a3, _⟩ := X.led_ (a, P) List.mem_cons_self
      exact hn a o ho a3
    · obtain ⟨⟨o, ho, _⟩, _, a3, _⟩ := X.led_ p (List.mem_cons_of_mem _ hp)
      exact hn p.1 o ho a3

/-- a new frame: entering a call -/
theorem Fx.enter (hg : Hk g h) (hn : h'.Ns h.objs.size m) (hk : Hk h h') : Fx [] g h g h.objs.size h' m [] where
  old := Hk.refl _
  now := hg.trans hk
  new := fun b o e => .inl ⟨o, e⟩
  keep := fun b o _ e => hk _ _ e
  live := fun b o e => ⟨o, hk _ _ e⟩
  ns := hn
  off := by
    cases e : g.get? h.objs.size with
    | none => rfl
    | some o => have := hg _ _ e; rw [size_none] at this; cases this
  off0 := size_none h
  led_ := fun p hp => nomatch hp
  nd := List.nodup_nil

/-- a new frame, with an argument that turns -/
theorem Fx.enter1 (hg : Hk g h) (ha : ∃ o, h.get? a = some o ∧ P o) (hga : g.get? a = none) (hn : h'.Ns h.objs.size m) (hk : Hk h h') : Fx [a] g h g h.objs.size h' m [(a, P)] where
  old := Hk.refl _
  now := hg.trans hk
  new := fun b o e => .inl ⟨o, e⟩
  keep := fun b o _ e => hk _ _ e
  live := fun b o e => ⟨o, hk _ _ e⟩
  ns := hn
  off := by
    cases e : g.get? h.objs.size with
    | none => rfl
    | some o => have := hg _ _ e; rw [size_none] at this; cases this
  off0 := size_none h
  led_ := fun p hp => by
    rw [List.mem_singleton.mp hp]
    obtain ⟨o, ho, hP⟩ := ha
    exact ⟨⟨o, hk _ _ ho, hP⟩, Nat.ne_of_lt (Heap.lt_size ho), hga, .inr (List.mem_singleton.mpr rfl)⟩
  nd := by simp
end
noncomputable abbrev Kf (w : World) : Frag := myK w.params
noncomputable abbrev Md (w : World) : Model := model PySem.Challenge.rw_qd0057_01.row.prog w

/-- the text's own objects and names -/
structure Wd (w : World) (mg mb : Str → Option Value) (g : Heap) : Prop where
  K : (Kf w).In g
  G : g.Ns mainGlobals mg
  B : g.Ns builtinsNs mb
  lim : g.NoLimit
  bi : ∀ x : Str, x ≠ "__name__" → mb x = bootBuiltins x
theorem Wd.mono {w : World} {mg mb : Str → Option Value} {g g' : Heap} (x : Wd w mg mb g) (hk : Hk g g') : Wd w mg mb g' :=
  ⟨x.K.keeps hk, x.G.keeps hk, x.B.keeps hk, x.lim.keeps hk, x.bi⟩

/-- the room around -/
structure Rm (A : Around) (k : Nat) : Prop where
  hh : A.handled = none
  hd : A.depth + 4 * k < 900
  hu : A.units + 40 * k < 9000
theorem Rm.room {A : Around} {k : Nat} (x : Rm A k) : A.depth < recursionLimit := Nat.lt_of_le_of_lt (Nat.le_add_right _ _) (Nat.lt_trans x.hd (by decide))
theorem Rm.units {A : Around} {k : Nat} (x : Rm A k) : A.units < cLine := Nat.lt_of_le_of_lt (Nat.le_add_right _ _) (Nat.lt_trans x.hu (by decide))
theorem Rm.deeper {A : Around} {k : Nat} {env : Env} (x : Rm A (k + 1)) : Rm (A.deeper env) k :=
  ⟨x.hh, by have := x.hd; show A.depth + 1 + 4 * k < 900; omega, by have := x.hu; show A.units + 3 + 40 * k < 9000; omega⟩
theorem Rm.in1 {A : Around} {k : Nat} (x : Rm A (k + 1)) : Rm A.in1 k :=
  ⟨x.hh, by have := x.hd; show A.depth + 4 * k < 900; omega, by have := x.hu; show A.units + 1 + 40 * k < 9000; omega⟩
theorem Rm.less {A : Around} {k j : Nat} (x : Rm A k) (h : j ≤ k := by omega) : Rm A j :=
  ⟨x.hh, by have := x.hd; omega, by have := x.hu; omega⟩

structure EnvIs (env : Env) (sc : Scope) (L : Addr) (cl : List (Str × Addr)) : Prop where
  scope : env.scope = sc
  locals : env.locals = L
  globals : env.globals = mainGlobals
  builtins : env.builtins = builtinsNs
  cells : env.cells = cl
  kind : sc.kind = .function

def mset (m : Str → Option Value) (x : Str) (v : Value) : Str → Option Value := fun y => if y = x then some v else m y
theorem mset_eq {m : Str → Option Value} {x : Str} {v : Value} : mset m x v x = some v := if_pos rfl
theorem mset_ne {m : Str → Option Value} {x y : Str} {v : Value} (h : y ≠ x) : mset m x v y = m y := if_neg h

section
variable {w : World} {A : Around} {E : Value → Shared → Prop} {s : Shared} {mg mb : Str → Option Value} {env : Env} {sc : Scope} {cl : List (Str × Addr)}
variable {fr : List Addr} {g0 h0 g : Heap} {L : Addr} {m : Str → Option Value} {led : List (Addr × (Obj → Prop))} {x : Str} {pos : Pos} {v : Value} {Q : Value → Shared → Prop}

theorem EnvIs.kindOf {k : NameKind} (he : EnvIs env sc L cl) (hx : sc.names.lookup x = some k) : env.kindOf x = some k := by
  unfold Env.kindOf; rw [he.scope]; exact hx
theorem EnvIs.k {env : Env} (he : EnvIs env sc L cl) : env.scope.kind = .function := by rw [he.scope]; exact he.kind

theorem ldv (X : Fx fr g0 h0 g L s.heap m led) (he : EnvIs env sc L cl) (hx : sc.names.lookup x = some .local) (hv : m x = some v) (h : Q v s)
    (hd : (x == ("__debug__" : Str)) = false := by decide +kernel) : wpAny (Md w) A (eval (.Name x pos) env) Q E s :=
  wpAny_Name (wpAny_loadName_local he.k (he.kindOf hx) (by rw [he.locals]; exact X.ns) hv h) hd

theorem ldc {c : Addr} {P : Obj → Prop} (X : Fx fr g0 h0 g L s.heap m led) (he : EnvIs env sc L cl) (hx : sc.names.lookup x = some .cell) (hc : cl.lookup x = some c)
    (hm : (c, P) ∈ led) (hP : ∀ o, P o → o.data = .cell (some v)) (h : Q v s)
    (hd : (x == ("__debug__" : Str)) = false := by decide +kernel) : wpAny (Md w) A (eval (.Name x pos) env) Q E s :=
  wpAny_Name (wpAny_loadName_cell he.k (he.kindOf hx) (by rw [he.cells]; exact hc) (let ⟨o, ho, hp⟩ := X.at hm; ⟨o, ho, hP o hp⟩) h) hd

theorem ldg (W : Wd w mg mb g) (X : Fx fr g0 h0 g L s.heap m led) (he : EnvIs env sc L cl) (hx : sc.names.lookup x = some .globalImplicit) (e : nsIn (Kf w) mainGlobals x = some (some v)) (h : Q v s)
    (hd : (x == ("__debug__" : Str)) = false := by decide +kernel) : wpAny (Md w) A (eval (.Name x pos) env) Q E s :=
  Name_function_global he.k (he.kindOf hx) (loadGlobal_global (env := env) (by rw [he.globals]; exact W.G.keeps X.now) (mg_of W.K W.G e) h) hd
theorem ldb (W : Wd w mg mb g) (X : Fx fr g0 h0 g L s.heap m led) (he : EnvIs env sc L cl) (hx : sc.names.lookup x = some .globalImplicit) (e : nsIn (Kf w) mainGlobals x = some none)
    (hb : bootBuiltins x = some v) (h : Q v s) (hn : x ≠ "__name__" := by decide +kernel)
    (hd : (x == ("__debug__" : Str)) = false := by decide +kernel) : wpAny (Md w) A (eval (.Name x pos) env) Q E s :=
  Name_function_global he.k (he.kindOf hx) (loadGlobal_builtin (env := env) (by rw [he.globals]; exact W.G.keeps X.now) (mg_none_of W.K W.G e) (by rw [he.builtins]; exact W.B.keeps X.now) ((W.bi x hn).trans hb) h) hd

theorem stv {Q : Unit → Shared → Prop} (X : Fx fr g0 h0 g L s.heap m led) (he : EnvIs env sc L cl) (hx : sc.names.lookup x = some .local)
    (h : ∀ h', Fx fr g0 h0 g L h' (mset m x v) led → Q () { s with heap := h', toks := s.toks + 1 }) : wpAny (Md w) A (storeName env x v) Q E s :=
  wpAny_storeName_local (he.kindOf hx) (by rw [he.locals]; exact X.ns) (fun h' hn hs => h h' (X.set (by rw [he.locals] at hn; exact hn) (by rw [he.locals] at hs; exact hs)))
    (by rw [he.k]; rfl)

/-- what a flow hands on -/
def fval (f : Flow) : Value := match f with | .ret v => v | _ => .none

theorem callF {k : Nat} {name qual : Str} {params : Arguments} {body : List Stmt} {dV kV doc pm cdv ct oc : Value} {an od : Option Addr} {osl : Array (Option Value)} {f : Addr} {args : List Value} {kw : List (Str × Value)} {binds : List (Str × Value)}
    (W : Wd w mg mb g) (hg : Hk g s.heap) (R : Rm A (k + 1))
    (ho : (Kf w).lookup f = some ⟨oc, od, .func (fnX name qual params body sc [] dV kV doc pm an cdv ct), osl⟩) (hcd : codeIn (Kf w) cdv qual = true)
    (hbind : BindsTo s (fnX name qual params body sc [] dV kV doc pm an cdv ct) ⟨args, kw⟩ binds) (hloc : (binds.all fun y => decide (sc.names.lookup y.1 = some .local)) = true)
    (hcell : (sc.names.all fun x => x.2 != .cell) = true) (hco : sc.isCoroutine = false) (hgen : sc.isGenerator = false) (hk : sc.kind = .function)
    (h : ∀ env L h₁, EnvIs env sc L [] → Rm (A.deeper env) k → h₁.Ns s.heap.objs.size (fun y => binds.reverse.lookup y) → L = s.heap.objs.size → Hk s.heap h₁ →
      wpAny (Md w) (A.deeper env) (execs body env) (fun fl s' => Q (fval fl) s') (fun _ _ => False) { s with heap := h₁, toks := s.toks + binds.length }) :
    wpAny (Md w) A (call (.ref f) args kw) Q E s := by
  have hi := W.K.keeps hg
  refine wpAny_call (codeAny_call_def (fd := fnX name qual params body sc [] dV kV doc pm an cdv ct) (body := body) (binds := binds) R.room (hi _ _ ho) rfl (W.lim.keeps hg) (codeRec_of hi hcd) rfl hbind ?_ (locs hloc) (fun h₁ hns hk₁ => ?_) hco hgen hk)
  · intro y hy q
    have := List.all_eq_true.mp hcell y hy
    rw [q] at this; cases this
  · refine wpAny_mono (h _ _ h₁ ⟨rfl, rfl, rfl, rfl, rfl, hk⟩ R.deeper hns rfl hk₁) (fun fl s' hq => ?_) (fun _ _ x => x.elim)
    cases fl <;> exact hq
end
section
variable {w : World} {A : Around} {E : Value → Shared → Prop} {s : Shared} {mg mb : Str → Option Value} {env : Env} {sc : Scope} {cl : List (Str × Addr)}
variable {fr : List Addr} {g0 h0 g : Heap} {L : Addr} {m : Str → Option Value} {led : List (Addr × (Obj → Prop))} {x : Str} {pos : Pos} {v : Value}

theorem Fx.lose {a : Addr} {P : Obj → Prop} {h h' : Heap} (X : Fx fr g0 h0 g L h m ((a, P) :: led)) (ha : a ∉ fr) (hk : ∀ b o, b ≠ a → h.get? b = some o → h'.get? b = some o) : Fx fr g0 h0 g L h' m led := by
  obtain ⟨_, hL, hg, h0'⟩ := X.led_ (a, P) List.mem_cons_self
  have ha0 := h0'.resolve_right ha
  have nd := List.nodup_cons.mp X.nd
  have kk : ∀ b o o2, h0.get? b = some o2 → h.get? b = some o → h'.get? b = some o := fun b o o2 e2 e => hk b o (fun q => by rw [q, ha0] at e2; cases e2) e
  refine ⟨⟨X.old, fun b o e => hk b o (fun q => by rw [q, hg] at e; cases e) (X.now b o e), X.new, fun b o hb e => kk b o o e (X.keep b o hb e), fun b o e => ?_⟩, X.ns.at' fun o e => hk L o (Ne.symm hL) e, X.off, X.off0, fun q hq => ?_, nd.2⟩
  · obtain ⟨o', ho'⟩ := X.live b o e; exact ⟨o', kk b o' o e ho'⟩
  · obtain ⟨⟨o, e, hp⟩, r⟩ := X.led_ q (List.mem_cons_of_mem _ hq)
    exact ⟨⟨o, hk q.1 o (fun z => nd.1 (List.mem_map.mpr ⟨q, hq, z⟩)) e, hp⟩, r⟩

/-- how a loop's turn ends: the frame's facts hold, the iterator as it was, J one further -/
def TurnEnd (fr : List Addr) (g0 h0 : Heap) (L I : Addr) (it : Obj → Prop) (gb : Heap) (J : Heap → (Str → Option Value) → List (Addr × (Obj → Prop)) → Prop) (s s' : Shared) : Prop :=
  ∃ g' m' led' h' tk', s' = { s with heap := h', toks := tk' } ∧ Hk gb g' ∧ Fx fr g0 h0 g' L h' m' ((I, it) :: led') ∧ J g' m' led'
theorem TurnEnd.mk {I : Addr} {it : Obj → Prop} {gb g' : Heap} {J : Heap → (Str → Option Value) → List (Addr × (Obj → Prop)) → Prop} {h' : Heap} {tk' : Nat} {m' : Str → Option Value} {led' : List (Addr × (Obj → Prop))}
    (X : Fx fr g0 h0 g' L h' m' ((I, it) :: led')) (hk : Hk gb g') (j : J g' m' led') {s' : Shared} (e : s' = { s with heap := h', toks := tk' } := by with_unfolding_all rfl) : TurnEnd fr g0 h0 L I it gb J s s' := ⟨g', m', led', h', tk', e, hk, X, j⟩
def TurnPost (fr : List Addr) (g0 h0 : Heap) (L I : Addr) (it : Obj → Prop) (gb : Heap) (J : Heap → (Str → Option Value) → List (Addr × (Obj → Prop)) → Prop) (Q : Flow → Shared → Prop) (s : Shared) (f : Flow) (s' : Shared) : Prop :=
  match f with
  | .ret v => Q (.ret v) s'
  | .brk => Q .next s'
  | _ => TurnEnd fr g0 h0 L I it gb J s s'

theorem for_any {target : Expr} {body : List Stmt} {I : Addr} {fp : List Addr} {n : Nat} {P : Nat → Value → Prop} {St : Nat → Heap → Prop} {it0 : Obj → Prop} {Q : Flow → Shared → Prop} {R : Result → Shared → Prop}
    (W : Walks PySem.Challenge.rw_qd0057_01.row.prog w A I fp [I] n P St) (hI : ∀ i h, St i h → ∃ o, h.get? I = some o)
    (J : Nat → Heap → (Str → Option Value) → List (Addr × (Obj → Prop)) → Prop)
    (X : Fx fr g0 h0 g L s.heap m ((I, it0) :: led)) (hst : St 0 s.heap) (hfp : ∀ b ∈ fp, b = I ∨ ∃ o, g.get? b = some o) (hIf : I ∉ fr) (hj : J 0 g m led)
    (turn : ∀ i v g' m' led' h tk it E', i < n → P i v → Hk g g' → J i g' m' led' → St (i + 1) h → Fx fr g0 h0 g' L h m' ((I, it) :: led') →
      wpAny (Md w) A (letOwnedTupleGo target (.ref I) v) (fun _ s₁ => wpAny (Md w) A (assign target env v) (fun _ s₂ => wpAny (Md w) A (execs body env) (TurnPost fr g0 h0 L I it g' (J (i + 1)) Q s) E' s₂) E' s₁) E' { s with heap := h, toks := tk })
    (done : ∀ g' m' led' h tk, Hk g g' → J n g' m' led' → Fx fr g0 h0 g' L h m' led' → Q .next { s with heap := h, toks := tk })
    (hR : ∀ f s', Q f s' → R (.ok f) s') :
    codeAny (Md w) A (.forLoop target (.ref I) body [] env) R s := by
  refine codeAny_forLoop_any (fun k s' => ∃ h tk g' m' led' i oI, s' = { s with heap := h, toks := tk } ∧ i ≤ n ∧ k = n + 1 - i ∧ St i h ∧ Hk g g' ∧ Fx fr g0 h0 g' L h m' ((I, (· = oI)) :: led') ∧ J i g' m' led') ?_ (n + 1) ?_
  · rintro k s' ⟨h, tk, g', m', led', i, oI, rfl, hi, rfl, hst', hk', X', hJ⟩
    have hgI : g'.get? I = none := (X'.led_ (I, (· = oI)) List.mem_cons_self).2.2.1
    by_cases hlt : i < n
    · refine W.item i _ _ _ hlt hst' fun v h₁ tk₁ hP hst₁ hk₁ => ?_
      obtain ⟨o₁, ho₁⟩ := hI _ _ hst₁
      have X₁ : Fx fr g0 h0 g' L h₁ m' ((I, (· = o₁)) :: led') := X'.turn (fun b o hb e => hk₁ b o (by simpa using hb) e) ⟨o₁, ho₁, rfl⟩
      refine wpAny_mono (turn i v g' m' led' h₁ tk₁ (· = o₁) _ hlt hP hk' hJ hst₁ X₁) (fun _ s₁ q => wpAny_mono q (fun _ s₂ q => wpAny_mono q (fun f s₃ q => ?_) fun _ _ e => e) fun _ _ e => e) fun _ _ e => e
      have next : TurnEnd fr g0 h0 L I (· = o₁) g' (J (i + 1)) s s₃ → ∃ k', k' < n + 1 - i ∧ ∃ h tk g' m' led' i oI, s₃ = { s with heap := h, toks := tk } ∧ i ≤ n ∧ k' = n + 1 - i ∧ St i h ∧ Hk g g' ∧ Fx fr g0 h0 g' L h m' ((I, (· = oI)) :: led') ∧ J i g' m' led' := by
        rintro ⟨g₃, m₃, led₃, h₃, tk₃, rfl, hk₃, X₃, hJ₃⟩
        refine ⟨n + 1 - (i + 1), by omega, h₃, tk₃, g₃, m₃, led₃, i + 1, o₁, rfl, hlt, rfl, W.frame _ _ _ hst₁ fun b hb o e => ?_, hk'.trans hk₃, X₃, hJ₃⟩
        rcases hfp b hb with rfl | ⟨o', ho'⟩
        · obtain ⟨o₂, e₂, rfl⟩ := X₃.at List.mem_cons_self
          rw [ho₁] at e; cases e; exact e₂
        · have e' := X₁.now _ _ (hk' _ _ ho')
          rw [e] at e'; cases e'
          exact X₃.now _ _ (hk₃ _ _ (hk' _ _ ho'))
      cases f with
      | ret v => exact hR _ _ q
      | brk => exact hR _ _ q
      | next => exact next q
      | cont => exact next q
    · have hin : i = n := by omega
      subst hin
      refine W.done _ _ _ hst' fun h₁ tk₁ hk₁ => wpAny_execs_nil ?_
      exact hR _ _ (done g' m' led' h₁ tk₁ hk' hJ (X'.lose hIf fun b o hb e => hk₁ b o (by simpa using hb) e))
  · obtain ⟨o, ho, _⟩ := X.at List.mem_cons_self
    refine ⟨s.heap, s.toks, g, m, led, 0, o, rfl, Nat.zero_le _, rfl, hst, Hk.refl _, ⟨X.toOut, X.ns, X.off, X.off0, fun p hp => ?_, X.nd⟩, hj⟩
    rcases List.mem_cons.mp hp with rfl | hp
    · exact ⟨⟨o, ho, rfl⟩, (X.led_ (I, it0) List.mem_cons_self).2⟩
    · exact X.led_ p (List.mem_cons_of_mem _ hp)

theorem for_name {px : Pos} {body : List Stmt} {I : Addr} {fp : List Addr} {n : Nat} {P : Nat → Value → Prop} {St : Nat → Heap → Prop} {it0 : Obj → Prop} {Q : Flow → Shared → Prop} {R : Result → Shared → Prop}
    (W : Walks PySem.Challenge.rw_qd0057_01.row.prog w A I fp [I] n P St) (hI : ∀ i h, St i h → ∃ o, h.get? I = some o)
    (J : Nat → Heap → (Str → Option Value) → List (Addr × (Obj → Prop)) → Prop) (he : EnvIs env sc L cl) (hx : sc.names.lookup x = some .local)
    (X : Fx fr g0 h0 g L s.heap m ((I, it0) :: led)) (hst : St 0 s.heap) (hfp : ∀ b ∈ fp, b = I ∨ ∃ o, g.get? b = some o) (hIf : I ∉ fr) (hj : J 0 g m led)
    (turn : ∀ i v g' m' led' h tk it E', i < n → P i v → Hk g g' → J i g' m' led' → Fx fr g0 h0 g' L h (mset m' x v) ((I, it) :: led') →
      wpAny (Md w) A (execs body env) (TurnPost fr g0 h0 L I it g' (J (i + 1)) Q s) E' { s with heap := h, toks := tk })
    (done : ∀ g' m' led' h tk, Hk g g' → J n g' m' led' → Fx fr g0 h0 g' L h m' led' → Q .next { s with heap := h, toks := tk })
    (hR : ∀ f s', Q f s' → R (.ok f) s') :
    codeAny (Md w) A (.forLoop (.Name x px) (.ref I) body [] env) R s := by
  refine for_any W hI J X hst hfp hIf hj (fun i v g' m' led' h tk it E' hi hP hk hJ _ X' => ?_) done hR
  show wpAny (Md w) A (pure ()) _ _ _
  refine wpAny_pure (wpAny_assign_Name (stv X' he hx fun h₂ X₂ => ?_))
  exact turn i v g' m' led' h₂ _ it E' hi hP hk hJ X₂

theorem fr_new (hfr : ∀ a ∈ fr, ∃ o, h0.get? a = some o) {h : Heap} (X : Fx fr g0 h0 g L h m led) : h.objs.size ∉ fr := fun q => by
  obtain ⟨o, ho⟩ := hfr _ q
  obtain ⟨o', ho'⟩ := X.live _ _ ho
  rw [size_none] at ho'; cases ho'

/-- for x in a list that stands still -/
theorem for_list {k : Nat} {px : Pos} {body : List Stmt} {l : Addr} {vs : List Value} {Q : Flow → Shared → Prop} {R : Result → Shared → Prop}
    (J : Nat → Heap → (Str → Option Value) → List (Addr × (Obj → Prop)) → Prop) (rm : Rm A k) (he : EnvIs env sc L cl) (hx : sc.names.lookup x = some .local)
    (X : Fx fr g0 h0 g L s.heap m led) (hl : g.IsList l vs.toArray) (hfr : ∀ a ∈ fr, ∃ o, h0.get? a = some o) (hj : J 0 g m led)
    (turn : ∀ i v g' m' led' h tk it I E', vs[i]? = some v → Hk g g' → J i g' m' led' → Fx fr g0 h0 g' L h (mset m' x v) ((I, it) :: led') →
      wpAny (Md w) A (execs body env) (TurnPost fr g0 h0 L I it g' (J (i + 1)) Q s) E' { s with heap := h, toks := tk })
    (done : ∀ g' m' led' h tk, Hk g g' → J vs.length g' m' led' → Fx fr g0 h0 g' L h m' led' → Q .next { s with heap := h, toks := tk })
    (hR : ∀ f s', Q f s' → R (.ok f) s') :
    wpAny (Md w) A (pyIter (.ref l)) (fun it s₂ => codeAny (Md w) A (.forLoop (.Name x px) it body [] env) R s₂) E s := by
  obtain ⟨o, ho, hc, hd⟩ := hl
  refine wpAny_pyIter_list ⟨o, X.now _ _ ho, hc, hd⟩ ?_
  have hne : l ≠ s.heap.objs.size := Nat.ne_of_lt (Heap.lt_size (X.now _ _ ho))
  have hk : Hk s.heap (s.heap.push { cls := .type "list_iterator", data := .fields #[.ref l, .int 0 0] }) := Hk.push _ _
  have X₁ := X.add hk (size_none _) (Heap.get?_push_size _ rfl) (P := fun _ => True) trivial
  refine for_name (s := { s with heap := s.heap.push { cls := .type "list_iterator", data := .fields #[.ref l, .int 0 0] } }) (n := vs.length) (P := fun i v => vs[i]? = some v) (St := fun i h => h.IsListIter s.heap.objs.size l i ∧ h.IsList l vs.toArray) (fp := [s.heap.objs.size, l])
    (by have W := Walks.list (prog := PySem.Challenge.rw_qd0057_01.row.prog) (w := w) rm.hh s.heap.objs.size l hne vs.toArray; simpa using W) ?_ J he hx X₁ ⟨⟨_, Heap.get?_push_size _ rfl, rfl, rfl⟩, ⟨o, hk _ _ (X.now _ _ ho), hc, hd⟩⟩ ?_ (fr_new hfr X) hj
    (fun i v g' m' led' h tk it E' _ hP hk hJ X' => turn i v g' m' led' h tk it _ E' hP hk hJ X') done hR
  · rintro i h ⟨⟨o, ho, _⟩, _⟩; exact ⟨o, ho⟩
  · intro b hb
    simp only [List.mem_cons, List.not_mem_nil, or_false] at hb
    rcases hb with rfl | rfl
    · exact .inl rfl
    · exact .inr ⟨o, ho⟩

/-- for x in a tuple that stands still -/
theorem for_tuple {k : Nat} {px : Pos} {body : List Stmt} {l : Addr} {vs : List Value} {Q : Flow → Shared → Prop} {R : Result → Shared → Prop}
    (J : Nat → Heap → (Str → Option Value) → List (Addr × (Obj → Prop)) → Prop) (rm : Rm A k) (he : EnvIs env sc L cl) (hx : sc.names.lookup x = some .local)
    (X : Fx fr g0 h0 g L s.heap m led) (hl : g.IsTuple l vs.toArray) (hfr : ∀ a ∈ fr, ∃ o, h0.get? a = some o) (hj : J 0 g m led)
    (turn : ∀ i v g' m' led' h tk it I E', vs[i]? = some v → Hk g g' → J i g' m' led' → Fx fr g0 h0 g' L h (mset m' x v) ((I, it) :: led') →
      wpAny (Md w) A (execs body env) (TurnPost fr g0 h0 L I it g' (J (i + 1)) Q s) E' { s with heap := h, toks := tk })
    (done : ∀ g' m' led' h tk, Hk g g' → J vs.length g' m' led' → Fx fr g0 h0 g' L h m' led' → Q .next { s with heap := h, toks := tk })
    (hR : ∀ f s', Q f s' → R (.ok f) s') :
    wpAny (Md w) A (pyIter (.ref l)) (fun it s₂ => codeAny (Md w) A (.forLoop (.Name x px) it body [] env) R s₂) E s := by
  obtain ⟨o, ho, hc, hd⟩ := hl
  refine wpAny_pyIter_tuple ⟨o, X.now _ _ ho, hc, hd⟩ ?_
  have hne : l ≠ s.heap.objs.size := Nat.ne_of_lt (Heap.lt_size (X.now _ _ ho))
  have hk : Hk s.heap (s.heap.push { cls := .type "tuple_iterator", data := .fields #[.ref l, .int 0 0] }) := Hk.push _ _
  have X₁ := X.add hk (size_none _) (Heap.get?_push_size _ rfl) (P := fun _ => True) trivial
  refine for_name (s := { s with heap := s.heap.push { cls := .type "tuple_iterator", data := .fields #[.ref l, .int 0 0] } }) (n := vs.length) (P := fun i v => vs[i]? = some v) (St := fun i h => h.IsTupleIter s.heap.objs.size l i ∧ h.IsTuple l vs.toArray) (fp := [s.heap.objs.size, l])
    (by have W := Walks.tuple (prog := PySem.Challenge.rw_qd0057_01.row.prog) (w := w) rm.hh s.heap.objs.size l hne vs.toArray; simpa using W) ?_ J he hx X₁ ⟨⟨_, Heap.get?_push_size _ rfl, rfl, rfl⟩, ⟨o, hk _ _ (X.now _ _ ho), hc, hd⟩⟩ ?_ (fr_new hfr X) hj
    (fun i v g' m' led' h tk it E' _ hP hk hJ X' => turn i v g' m' led' h tk it _ E' hP hk hJ X') done hR
  · rintro i h ⟨⟨o, ho, _⟩, _⟩; exact ⟨o, ho⟩
  · intro b hb
    simp only [List.mem_cons, List.not_mem_nil, or_false] at hb
    rcases hb with rfl | rfl
    · exact .inl rfl
    · exact .inr ⟨o, ho⟩
end
section
variable {M : Model} {w : World} {A : Around} {E : Value → Shared → Prop} {s : Shared} {env : Env} {Q : Flow → Shared → Prop}

def thenRest (M : Model) (A : Around) (rest : List Stmt) (env : Env) (Q : Flow → Shared → Prop) (E : Value → Shared → Prop) : Flow → Shared → Prop
  | .next, s' => wpAny M A (execs rest env) Q E s'
  | f, s' => Q f s'
theorem thenRest_next {rest : List Stmt} (h : wpAny M A (execs rest env) Q E s) : thenRest M A rest env Q E .next s := h
theorem thenRest_ret {rest : List Stmt} {v : Value} (h : Q (.ret v) s) : thenRest M A rest env Q E (.ret v) s := h
theorem thenRest_cont {rest : List Stmt} (h : Q .cont s) : thenRest M A rest env Q E .cont s := h
theorem thenRest_brk {rest : List Stmt} (h : Q .brk s) : thenRest M A rest env Q E .brk s := h
theorem execs_cons' {st : Stmt} {rest : List Stmt} (h : wpAny M A (exec st env) (thenRest M A rest env Q E) E s) : wpAny M A (execs (st :: rest) env) Q E s :=
  wpAny_execs_cons (wpAny_mono h (fun f _ q => by cases f <;> exact q) fun _ _ e => e)

/-- the state that a walk began at: all later ones part from it in heap and tokens alone -/
def IsS0 (_ : Shared) : Prop := True
theorem absS {α : Type} {t : Sem α} {Q : α → Shared → Prop} {S s0 : Shared} {h : Heap} (_ : IsS0 s0) (hS : ∃ tk, S = { s0 with heap := h, toks := tk }) (H : ∀ tk, wpAny M A t Q E { s0 with heap := h, toks := tk }) : wpAny M A t Q E S := by
  obtain ⟨tk, rfl⟩ := hS; exact H tk
theorem thenRest_next0 {rest : List Stmt} {S s0 : Shared} {h : Heap} (i : IsS0 s0) (hS : ∃ tk, S = { s0 with heap := h, toks := tk }) (H : ∀ tk, wpAny M A (execs rest env) Q E { s0 with heap := h, toks := tk }) : thenRest M A rest env Q E .next S := absS i hS H

theorem ifb {p : Prop} [Decidable p] {X Y : Prop} (h1 : p → X) (h2 : ¬ p → Y) : if decide p = true then X else Y := by
  by_cases h : p
  · simpa [h] using h1 h
  · simpa [h] using h2 h
theorem ife {α : Type} [DecidableEq α] {a b : α} {X Y : Prop} (h1 : a = b → X) (h2 : a ≠ b → Y) : if (a == b) = true then X else Y := by
  by_cases h : a = b
  · simpa [h] using h1 h
  · simpa [h] using h2 h
theorem iff_ {b : Bool} {X Y : Prop} (h1 : b = true → X) (h2 : b = false → Y) : if b = true then X else Y := by
  cases b
  · simpa using h2 rfl
  · simpa using h1 rfl
theorem ift {X Y : Prop} (h1 : X) : if true = true then X else Y := by simpa using h1
theorem ifn {X Y : Prop} (h1 : Y) : if false = true then X else Y := by simpa using h1
end

section
variable {fr : List Addr} {g0 h0 : Heap} {L I : Addr} {it : Obj → Prop} {gb : Heap} {J : Heap → (Str → Option Value) → List (Addr × (Obj → Prop)) → Prop} {Q : Flow → Shared → Prop} {s s' : Shared}
theorem TurnPost_next (h : TurnEnd fr g0 h0 L I it gb J s s') : TurnPost fr g0 h0 L I it gb J Q s .next s' := h
theorem TurnPost_cont (h : TurnEnd fr g0 h0 L I it gb J s s') : TurnPost fr g0 h0 L I it gb J Q s .cont s' := h
theorem TurnPost_ret {v : Value} (h : Q (.ret v) s') : TurnPost fr g0 h0 L I it gb J Q s (.ret v) s' := h
end

/-- the map of a call's arguments -/
def mOf (binds : List (Str × Value)) : Str → Option Value := binds.foldl (fun m p => mset m p.1 p.2) fun _ => none
theorem mOf_eq (binds : List (Str × Value)) : (fun y => binds.reverse.lookup y) = mOf binds := by
  suffices h : ∀ (l : List (Str × Value)) (m : Str → Option Value) (y : Str), (l.foldl (fun m p => mset m p.1 p.2) m) y = (l.reverse.lookup y).or (m y) by
    funext y; unfold mOf; rw [h]; simp
  intro l
  induction l with
  | nil => intro m y; simp
  | cons p l ih =>
    intro m y
    obtain ⟨a, b⟩ := p
    rw [List.foldl_cons, ih, List.reverse_cons, List.lookup_append, Option.or_assoc]
    congr 1
    by_cases h : y = a
    · subst h; simp [mset]
    · have h' : (y == a) = false := beq_eq_false_iff_ne.mpr h
      simp [mset, h, List.lookup, h']

section
variable {w : World} {A : Around} {E : Value → Shared → Prop} {s : Shared} {mg mb : Str → Option Value} {sc : Scope} {g : Heap} {Q : Value → Shared → Prop}
theorem callP {k : Nat} {name qual : Str} {params : Arguments} {body : List Stmt} {dV kV doc pm cdv ct oc : Value} {an od : Option Addr} {osl : Array (Option Value)} {f : Addr} {args : List Value} {kw : List (Str × Value)} (binds : List (Str × Value))
    (W : Wd w mg mb g) (hg : Hk g s.heap) (R : Rm A (k + 1))
    (ho : (Kf w).lookup f = some ⟨oc, od, .func (fnX name qual params body sc [] dV kV doc pm an cdv ct), osl⟩) (hcd : codeIn (Kf w) cdv qual = true)
    (hbind : BindsTo s (fnX name qual params body sc [] dV kV doc pm an cdv ct) ⟨args, kw⟩ binds) (hloc : (binds.all fun y => decide (sc.names.lookup y.1 = some .local)) = true)
    (hcell : (sc.names.all fun x => x.2 != .cell) = true) (hco : sc.isCoroutine = false) (hgen : sc.isGenerator = false) (hk : sc.kind = .function)
    (h : ∀ env L h₁ tk A', IsS0 s → EnvIs env sc L [] → Rm A' k → Fx [] g s.heap g L h₁ (mOf binds) [] →
      wpAny (Md w) A' (execs body env) (fun fl s' => Q (fval fl) s') (fun _ _ => False) { s with heap := h₁, toks := tk }) :
    wpAny (Md w) A (call (.ref f) args kw) Q E s := by
  refine callF W hg R ho hcd hbind hloc hcell hco hgen hk (fun env L h₁ he rm hn hL hk => ?_)
  subst hL
  rw [mOf_eq] at hn
  exact h env _ h₁ _ _ trivial he rm (Fx.enter hg hn hk)

theorem callP1 {k : Nat} {name qual : Str} {params : Arguments} {body : List Stmt} {dV kV doc pm cdv ct oc : Value} {an od : Option Addr} {osl : Array (Option Value)} {f : Addr} {args : List Value} {kw : List (Str × Value)} {a : Addr} {P : Obj → Prop} (binds : List (Str × Value))
    (W : Wd w mg mb g) (hg : Hk g s.heap) (R : Rm A (k + 1)) (ha : ∃ o, s.heap.get? a = some o ∧ P o) (hga : g.get? a = none)
    (ho : (Kf w).lookup f = some ⟨oc, od, .func (fnX name qual params body sc [] dV kV doc pm an cdv ct), osl⟩) (hcd : codeIn (Kf w) cdv qual = true)
    (hbind : BindsTo s (fnX name qual params body sc [] dV kV doc pm an cdv ct) ⟨args, kw⟩ binds) (hloc : (binds.all fun y => decide (sc.names.lookup y.1 = some .local)) = true)
    (hcell : (sc.names.all fun x => x.2 != .cell) = true) (hco : sc.isCoroutine = false) (hgen : sc.isGenerator = false) (hk : sc.kind = .function)
    (h : ∀ env L h₁ tk A', IsS0 s → EnvIs env sc L [] → Rm A' k → Fx [a] g s.heap g L h₁ (mOf binds) [(a, P)] →
      wpAny (Md w) A' (execs body env) (fun fl s' => Q (fval fl) s') (fun _ _ => False) { s with heap := h₁, toks := tk }) :
    wpAny (Md w) A (call (.ref f) args kw) Q E s := by
  refine callF W hg R ho hcd hbind hloc hcell hco hgen hk (fun env L h₁ he rm hn hL hk => ?_)
  subst hL
  rw [mOf_eq] at hn
  exact h env _ h₁ _ _ trivial he rm (Fx.enter1 hg ha hga hn hk)
end
section
variable {w : World} {A : Around} {E : Value → Shared → Prop} {s : Shared} {mg mb : Str → Option Value} {env : Env} {sc : Scope} {cl : List (Str × Addr)}
variable {fr : List Addr} {g0 h0 g : Heap} {L : Addr} {h h' : Heap} {m m' : Str → Option Value} {led : List (Addr × (Obj → Prop))} {x : Str} {pos : Pos} {v : Value}

theorem Heap.IsList.hk {h h' : Heap} {a : Addr} {i : Array Value} (x : h.IsList a i) (hk : Hk h h') : h'.IsList a i := let ⟨o, ho, r⟩ := x; ⟨o, hk _ _ ho, r⟩
theorem Heap.IsTuple.hk {h h' : Heap} {a : Addr} {i : Array Value} (x : h.IsTuple a i) (hk : Hk h h') : h'.IsTuple a i := let ⟨o, ho, r⟩ := x; ⟨o, hk _ _ ho, r⟩

/-- what stood at the call's start stands -/
theorem Fx.k0 (X : Fx [] g0 h0 g L h m led) : Hk h0 h := fun b o e => X.keep b o (by simp) e

/-- as the library says it: all that stands, as one ledger -/
def allNews (L : Addr) (h : Heap) : List (Addr × Obj) := (List.range h.objs.size).filterMap fun b => if b = L then none else (h.get? b).map fun o => (b, o)
theorem mem_allNews {b : Addr} {o : Obj} (hb : b ≠ L) (e : h.get? b = some o) : (b, o) ∈ allNews L h :=
  List.mem_filterMap.mpr ⟨b, List.mem_range.mpr (Heap.lt_size e), by rw [if_neg hb, e]; rfl⟩
theorem of_allNews {p : Addr × Obj} (hp : p ∈ allNews L h) : p.1 ≠ L ∧ h.get? p.1 = some p.2 := by
  obtain ⟨b, _, e⟩ := List.mem_filterMap.mp hp
  by_cases hb : b = L
  · rw [if_pos hb] at e; cases e
  · rw [if_neg hb] at e
    cases q : h.get? b with
    | none => rw [q] at e; cases e
    | some o => rw [q] at e; cases e; exact ⟨hb, q⟩
theorem empty_get (b : Addr) : ({} : Heap).get? b = none := by
  cases e : ({} : Heap).get? b with
  | none => rfl
  | some o => exact absurd (Heap.lt_size e) (Nat.not_lt_zero _)
theorem Fx.lib (X : Fx fr g0 h0 g L h m led) : Fr {} L h m ∧ News {} L h (allNews L h) :=
  ⟨⟨X.ns, fun b o e => (by rw [empty_get] at e; cases e), Nat.zero_le _⟩, fun p hp => ⟨(of_allNews hp).2, (of_allNews hp).1, empty_get _⟩⟩
/-- back from the library's ledger -/
theorem Fx.back {extra : List (Addr × Obj)} (X : Fx fr g0 h0 g L h m led) (F : Fr {} L h' m') (N : News {} L h' (extra ++ allNews L h)) : Fx fr g0 h0 g L h' m' led := by
  have k : ∀ b o, b ≠ L → h.get? b = some o → h'.get? b = some o := fun b o hb e => (N _ (List.mem_append_right _ (mem_allNews hb e))).1
  refine ⟨⟨X.old, fun b o e => k b o (fun q => by rw [q, X.off] at e; cases e) (X.now b o e), X.new, fun b o hb e => k b o (fun q => by rw [q, X.off0] at e; cases e) (X.keep b o hb e), fun b o e => ?_⟩, F.ns, X.off, X.off0, fun p hp => ?_, X.nd⟩
  · obtain ⟨o', ho'⟩ := X.live b o e
    exact ⟨o', k b o' (fun q => by rw [q, X.off0] at e; cases e) ho'⟩
  · obtain ⟨⟨o, ho, hP⟩, hL, r⟩ := X.led_ p hp
    exact ⟨⟨o, k _ _ hL ho, hP⟩, hL, r⟩

/-- a new object stands in h' at a: onto the ledger -/
theorem Fx.put {a : Addr} {o : Obj} {P : Obj → Prop} (X : Fx fr g0 h0 g L h m led) (Y : Fx fr g0 h0 g L h' m' led) (ha : h.get? a = none) (ho : h'.get? a = some o) (hP : P o) : Fx fr g0 h0 g L h' m' ((a, P) :: led) where
  toOut := Y.toOut
  ns := Y.ns
  off := Y.off
  off0 := Y.off0
  led_ := fun p hp => by
    obtain ⟨h1, h2, h3, _⟩ := X.fresh_ne ha
    rcases List.mem_cons.mp hp with rfl | hp
    · exact ⟨⟨o, ho, hP⟩, h1, h2, .inl h3⟩
    · exact Y.led_ p hp
  nd := by
    rw [List.map_cons, List.nodup_cons]
    refine ⟨fun q => ?_, X.nd⟩
    obtain ⟨p, hp, e⟩ := List.mem_map.mp q
    exact (X.fresh_ne ha).2.2.2 p hp e

def isTup (vs : List Value) (o : Obj) : Prop := o.cls = .type "tuple" ∧ ∃ n, o.data = .seq vs.toArray n
def isLst (vs : List Value) (o : Obj) : Prop := o.cls = .type "list" ∧ ∃ n, o.data = .seq vs.toArray n
def isPl (vs : List Value) (o : Obj) : Prop := ∃ n, o = { cls := .type "list", data := .seq vs.toArray n }
theorem isPl.lst {vs : List Value} {o : Obj} (x : isPl vs o) : isLst vs o := by obtain ⟨n, rfl⟩ := x; exact ⟨rfl, n, rfl⟩
theorem tupleOf {a : Addr} {vs : List Value} (x : ∃ o, h.get? a = some o ∧ isTup vs o) : h.IsTuple a vs.toArray := x
theorem listOf {a : Addr} {vs : List Value} (x : ∃ o, h.get? a = some o ∧ isLst vs o) : h.IsList a vs.toArray := x
theorem toLst {a : Addr} {vs : List Value} (x : h.IsList a vs.toArray) : ∃ o, h.get? a = some o ∧ isLst vs o := x
theorem toTup {a : Addr} {vs : List Value} (x : h.IsTuple a vs.toArray) : ∃ o, h.get? a = some o ∧ isTup vs o := x
theorem Fx.pl {a : Addr} {vs : List Value} (X : Fx fr g0 h0 g L h m led) (hm : (a, isPl vs) ∈ led) : h.PlainList a vs.toArray := by
  obtain ⟨o, ho, n, rfl⟩ := X.at hm; exact ⟨n, ho⟩
theorem Fx.lst {a : Addr} {vs : List Value} (X : Fx fr g0 h0 g L h m led) (hm : (a, isLst vs) ∈ led) : h.IsList a vs.toArray := X.at hm

def FrOk (fr : List Addr) (h0 : Heap) : Prop := ∀ a ∈ fr, ∃ o, h0.get? a = some o
theorem FrOk.nil : FrOk [] h0 := fun _ ha => nomatch ha
theorem FrOk.off (f : FrOk fr h0) (X : Fx fr g0 h0 g L h m led) {a : Addr} (ha : h.get? a = none) : a ∉ fr := fun q => by
  obtain ⟨o, ho⟩ := f a q
  obtain ⟨o', ho'⟩ := X.live _ _ ho
  rw [ha] at ho'; cases ho'

section
variable {Q : Value → Shared → Prop} {vs : List Value}
theorem newTuple_g (f : FrOk fr h0) (X : Fx fr g0 h0 g L s.heap m led) (hsz : vs.length ≤ sizeLine)
    (hQ : ∀ a g' h', Hk g g' → Fx fr g0 h0 g' L h' m led → g'.IsTuple a vs.toArray → Q (.ref a) { s with heap := h' }) : wpAny (Md w) A (newTuple vs) Q E s := by
  refine wpAny_newObj_type ?_ (by show vs.toArray.size ≤ sizeLine; simpa using hsz)
  have hs := size_none s.heap
  have Y := X.add (P := isTup vs) (Hk.push s.heap { cls := .type "tuple", data := .seq vs.toArray }) hs (Heap.get?_push_size _ rfl) ⟨rfl, 0, rfl⟩
  obtain ⟨g', hk, ht, Z⟩ := Y.freeze (f.off X hs)
  exact hQ _ g' _ hk Z (tupleOf ht)
theorem newList_l (X : Fx fr g0 h0 g L s.heap m led) (hsz : vs.length ≤ sizeLine)
    (hQ : ∀ a h', s.heap.get? a = none → Fx fr g0 h0 g L h' m ((a, isPl vs) :: led) → Q (.ref a) { s with heap := h' }) : wpAny (Md w) A (newList vs) Q E s := by
  refine wpAny_newObj_type ?_ (by show vs.toArray.size ≤ sizeLine; simpa using hsz)
  have hs := size_none s.heap
  exact hQ _ _ hs (X.add (P := isPl vs) (Hk.push s.heap { cls := .type "list", data := .seq vs.toArray }) hs (Heap.get?_push_size _ rfl) ⟨0, rfl⟩)
theorem newList_g (f : FrOk fr h0) (X : Fx fr g0 h0 g L s.heap m led) (hsz : vs.length ≤ sizeLine)
    (hQ : ∀ a g' h', Hk g g' → Fx fr g0 h0 g' L h' m led → g'.IsList a vs.toArray → Q (.ref a) { s with heap := h' }) : wpAny (Md w) A (newList vs) Q E s :=
  newList_l X hsz fun a h' ha Y => by
    obtain ⟨g', hk, ⟨o, ho, hp⟩, Z⟩ := Y.freeze (f.off X ha)
    exact hQ a g' h' hk Z (listOf ⟨o, ho, hp.lst⟩)

/-- two tuples that stand still, one behind the other -/
theorem add_tup {t b : Addr} {us : List Value} (f : FrOk fr h0) (X : Fx fr g0 h0 g L s.heap m led) (ht : g.IsTuple t vs.toArray) (hb : g.IsTuple b us.toArray) (hsz : vs.length + us.length ≤ sizeLine)
    (hQ : ∀ a g' h', Hk g g' → Fx fr g0 h0 g' L h' m led → g'.IsTuple a (vs ++ us).toArray → Q (.ref a) { s with heap := h' }) : wpAny (Md w) A (binaryOp .Add (.ref t) (.ref b)) Q E s := by
  obtain ⟨F, N⟩ := X.lib
  refine add_tuples F N (Heap.IsTuple.hk ht X.now) (Heap.IsTuple.hk hb X.now) (fun e => ?_) (fun _ e => ?_) (fun _ _ h' F' N' => ?_)
  · subst e; exact hQ b g s.heap (Hk.refl _) X (by simpa using hb)
  · subst e; exact hQ t g s.heap (Hk.refl _) X (by simpa using ht)
  · have Y := X.back (extra := [(s.heap.objs.size, { cls := .type "tuple", data := .seq (vs ++ us).toArray })]) F' N'
    have hs := size_none s.heap
    have Z := X.put (P := isTup (vs ++ us)) Y hs (N' _ List.mem_cons_self).1 ⟨rfl, 0, rfl⟩
    obtain ⟨g', hk, ht', Z'⟩ := Z.freeze (f.off X hs)
    exact hQ _ g' _ hk Z' (tupleOf ht')

theorem is_none_none (hQ : Q (.bool true) s) : wpAny (Md w) A (compareOp .Is .none .none) Q E s := wpAny_is_self rfl hQ
theorem is_none_ref {a : Addr} (hQ : Q (.bool false) s) : wpAny (Md w) A (compareOp .Is (.ref a) .none) Q E s := wpAny_is_other rfl (by intro h; cases h) hQ
end
end

section
variable {w : World} {A : Around} {E : Value → Shared → Prop} {s : Shared} {env : Env} {sc : Scope} {cl : List (Str × Addr)}
variable {fr : List Addr} {g0 h0 g : Heap} {L : Addr} {m : Str → Option Value} {led : List (Addr × (Obj → Prop))} {x : Str}
def IsSeq (g : Heap) (a : Addr) (vs : List Value) : Prop := g.IsTuple a vs.toArray ∨ g.IsList a vs.toArray
theorem IsSeq.hk {g g' : Heap} {a : Addr} {vs : List Value} (x : IsSeq g a vs) (hk : Hk g g') : IsSeq g' a vs := x.imp (Heap.IsTuple.hk · hk) (Heap.IsList.hk · hk)
theorem for_seq {k : Nat} {px : Pos} {body : List Stmt} {l : Addr} {vs : List Value} {Q : Flow → Shared → Prop} {R : Result → Shared → Prop}
    (J : Nat → Heap → (Str → Option Value) → List (Addr × (Obj → Prop)) → Prop) (rm : Rm A k) (he : EnvIs env sc L cl) (hx : sc.names.lookup x = some .local)
    (X : Fx fr g0 h0 g L s.heap m led) (hl : IsSeq g l vs) (hfr : FrOk fr h0) (hj : J 0 g m led)
    (turn : ∀ i v g' m' led' h tk it I E', vs[i]? = some v → Hk g g' → J i g' m' led' → Fx fr g0 h0 g' L h (mset m' x v) ((I, it) :: led') →
      wpAny (Md w) A (execs body env) (TurnPost fr g0 h0 L I it g' (J (i + 1)) Q s) E' { s with heap := h, toks := tk })
    (done : ∀ g' m' led' h tk, Hk g g' → J vs.length g' m' led' → Fx fr g0 h0 g' L h m' led' → Q .next { s with heap := h, toks := tk })
    (hR : ∀ f s', Q f s' → R (.ok f) s') :
    wpAny (Md w) A (pyIter (.ref l)) (fun it s₂ => codeAny (Md w) A (.forLoop (.Name x px) it body [] env) R s₂) E s :=
  hl.elim (fun hl => for_tuple J rm he hx X hl hfr hj turn done hR) fun hl => for_list J rm he hx X hl hfr hj turn done hR
end
/-- ints that are symbols -/
abbrev nats (ks : List Nat) : List Int := ks.map fun k : Nat => (k : Int)
theorem nat_at {vs : List Value} {ks : List Nat} (h : IntsAre vs (nats ks)) {i : Nat} {v : Value} (hv : vs[i]? = some v) : ∃ (hi : i < ks.length) (t : Tok), v = .int (ks[i] : Nat) t := by
  have hl := h.length
  have hi : i < ks.length := by
    have := List.getElem?_eq_some_iff.mp hv
    obtain ⟨h1, _⟩ := this
    simp at hl; omega
  obtain ⟨t, ht⟩ := h.get i ((ks[i] : Nat) : Int) (by simp [hi])
  rw [ht] at hv
  exact ⟨hi, t, (Option.some.inj hv).symm⟩
theorem nats_append (a b : List Nat) : nats (a ++ b) = nats a ++ nats b := List.map_append

/-- joined_length -/
def jlen (L : List Int) : List Nat → Int → Int
  | [], acc => acc
  | k :: ks, acc => if L.getD k 0 < 0 then -1 else jlen L ks (acc + L.getD k 0)

/-- joined_words -/
def jw (W : List (Option (List Nat))) : List Nat → List Nat → Option (List Nat)
  | [], acc => some acc
  | k :: ks, acc => match W.getD k none with
    | none => none
    | some x => jw W ks (acc ++ x)

/-- a word or None -/
def WordV (g : Heap) (v : Value) : Option (List Nat) → Prop
  | none => v = .none
  | some ks => ∃ a vs, v = .ref a ∧ g.IsTuple a vs.toArray ∧ IntsAre vs (nats ks)
theorem WordV.hk {g g' : Heap} {v : Value} {o : Option (List Nat)} (x : WordV g v o) (hk : Hk g g') : WordV g' v o := by
  cases o with
  | none => exact x
  | some ks => obtain ⟨a, vs, e, ht, hi⟩ := x; exact ⟨a, vs, e, Heap.IsTuple.hk ht hk, hi⟩
def WordsV (g : Heap) (vs : List Value) (W : List (Option (List Nat))) : Prop := vs.length = W.length ∧ ∀ i (h : i < vs.length) (h' : i < W.length), WordV g vs[i] W[i]
theorem WordsV.hk {g g' : Heap} {vs : List Value} {W : List (Option (List Nat))} (x : WordsV g vs W) (hk : Hk g g') : WordsV g' vs W := ⟨x.1, fun i h h' => (x.2 i h h').hk hk⟩
theorem WordsV.get {g : Heap} {vs : List Value} {W : List (Option (List Nat))} (x : WordsV g vs W) {k : Nat} (hk : k < W.length) : ∃ v, vs[k]? = some v ∧ WordV g v (W.getD k none) := by
  have h' : k < vs.length := x.1 ▸ hk
  refine ⟨vs[k], by simp [h'], ?_⟩
  have := x.2 k h' hk
  simpa [List.getD, hk] using this
section
variable {w : World} {A : Around} {E : Value → Shared → Prop} {s : Shared} {mg mb : Str → Option Value} {env : Env} {sc : Scope} {cl : List (Str × Addr)}
variable {fr : List Addr} {g0 h0 g gw : Heap} {L : Addr} {h h' : Heap} {m m' : Str → Option Value} {led : List (Addr × (Obj → Prop))} {x : Str} {pos : Pos} {v : Value}

/-- an object of C with these attributes -/
def ObjAt (g : Heap) (x C : Addr) (fs : Str → Option Value) : Prop := ∃ ox es n, PySem.W.InstAt g x ox C (some (PySem.W.dictOf es n)) ∧ ∀ k, getL k es = some (fs k)
theorem InstHk {g g' : Heap} {x C : Addr} {ox : Obj} {od : Option Obj} (I : PySem.W.InstAt g x ox C od) (hk : Hk g g') : PySem.W.InstAt g' x ox C od := by
  refine ⟨hk _ _ I.at_, I.cls, I.no, ?_⟩
  have := I.dict
  split <;> simp_all
  exact hk _ _ this
theorem ObjAt.hk {g g' : Heap} {x C : Addr} {fs : Str → Option Value} (X : ObjAt g x C fs) (hk : Hk g g') : ObjAt g' x C fs := by
  obtain ⟨ox, es, n, I, hf⟩ := X; exact ⟨ox, es, n, InstHk I hk, hf⟩

theorem attr_own {Q : Value → Shared → Prop} {x C : Addr} {fs : Str → Option Value} {name : Str} {expr : Bool} {attr : Option Value} (W : Wd w mg mb gw) (hw : Hk gw s.heap) (I : ObjAt s.heap x C fs)
    (hg : plainGet (Kf w) C name = true) (hh : hasDictIn (Kf w) C = true) (ha : findIn (Kf w) (.ref C) name = some attr) (hn : noGet (Kf w) attr = true)
    (hv : fs name = some v) (hh' : handedIn v = true) (hQ : Q v { s with toks := s.toks + 1 }) : wpAny (Md w) A (getAttr (.ref x) name expr) Q E s := by
  obtain ⟨ox, es, n, I, hf⟩ := I
  exact PySem.W.get_value (W.K.keeps hw) I (plainGet_of hg).1 (findObj_own hh ha hn ((lookIn_dict ..).trans (by rw [hf, hv]))) hh' hQ

theorem meth_inst {Q : Value × List Value → Shared → Prop} {x C f : Addr} {fs : Str → Option Value} {name : Str} {pl : Sem Bool} (W : Wd w mg mb gw) (hw : Hk gw s.heap) (I : ObjAt s.heap x C fs)
    (hg : plainGet (Kf w) C name = true) (hf : findIn (Kf w) (.ref C) name = some (some (.ref f))) (ht : isFn (Kf w) (.ref f) = true) (hv : fs name = none) (hQ : Q (.ref f, [.ref x]) s) :
    wpAny (Md w) A (getMethod (.ref x) name pl) Q E s := by
  obtain ⟨ox, es, n, I, hff⟩ := I
  exact PySem.W.method_fn (W.K.keeps hw) I (plainGet_of hg).1 (plainGet_of hg).2 hf (beq_iff_eq.mp ht) (by show (lookIn name (PySem.W.dictOf es n)).map _ = _; rw [lookIn_dict, hff, hv]; rfl) hQ

theorem meth_list {Q : Value × List Value → Shared → Prop} {l : Addr} {items : Array Value} {name : Str} {id : String} {pl : Sem Bool} (hl : s.heap.PlainList l items) (slot : Slot "list" name id) (hty : typeOf (.builtin id) = pure (.type "method_descriptor"))
    (hQ : Q (.builtin id, [.ref l]) s) : wpAny (Md w) A (getMethod (.ref l) name pl) Q E s := by
  obtain ⟨n, e⟩ := hl
  exact getMethod_builtin ⟨_, e, rfl⟩ PySem.F.plainAttrs_list slot hty (fun a q => by cases q; exact ⟨_, e, rfl⟩) hQ

theorem callw {Q : Value → Shared → Prop} {f : Addr} {first : List Value} {e : Expr} {rest : List Expr} (W : Wd w mg mb gw) (hk : keepIn (Kf w) (.ref f) = true)
    (h : wpAny (Md w) A (spliced (backTo pos (starEach (e :: rest) env))) (fun vs s₁ => Hk gw s₁.heap ∧ wpAny (Md w) A (call (.ref f) (first ++ vs)) Q E s₁) E s)
    (he : starEach (e :: rest) env = (false, eval e env) :: starEach rest env) (hplain : (backTo pos (starEach rest env)).any (·.1) = false) :
    wpAny (Md w) A (callWith pos (.ref f) first (backTo pos (starEach (e :: rest) env)) []) Q E s :=
  PySem.W.callWith_K W.K hk (wpAny_mono h (fun _ _ q => ⟨W.K.keeps q.1, q.2⟩) fun _ _ e => e) he hplain
theorem callw0 {Q : Value → Shared → Prop} {f : Addr} {first : List Value} (W : Wd w mg mb gw) (hw : Hk gw s.heap) (hk : keepIn (Kf w) (.ref f) = true) (h : wpAny (Md w) A (call (.ref f) (first ++ [])) Q E s) :
    wpAny (Md w) A (callWith pos (.ref f) first (backTo pos (starEach [] env)) []) Q E s := PySem.W.callWith_K0 (W.K.keeps hw) hk h
theorem callb {Q : Value → Shared → Prop} {id : String} {first : List Value} {e : Expr} {rest : List Expr}
    (h : wpAny (Md w) A (spliced (backTo pos (starEach (e :: rest) env))) (fun vs s₁ => wpAny (Md w) A (call (.builtin id) (first ++ vs)) Q E s₁) E s)
    (he : starEach (e :: rest) env = (false, eval e env) :: starEach rest env) (hplain : (backTo pos (starEach rest env)).any (·.1) = false) :
    wpAny (Md w) A (callWith pos (.builtin id) first (backTo pos (starEach (e :: rest) env)) []) Q E s := by
  rw [he] at h ⊢
  exact PySem.Calls.callWith_builtin (by show (false || (backTo pos (starEach rest env)).any (·.1)) = false; rw [hplain]; rfl) (PySem.Calls.evalArgs_plain h)

/-- append to the ledger's first -/
theorem append0 {Q : Value → Shared → Prop} {l : Addr} {vs : List Value} (X : Fx fr g0 h0 g L s.heap m ((l, isPl vs) :: led)) (hsz : vs.length ≤ sizeLine)
    (hQ : ∀ h', Fx fr g0 h0 g L h' m ((l, isPl (vs ++ [v])) :: led) → Q .none { s with heap := h' }) : wpAny (Md w) A (call (.builtin "list.append") ([.ref l] ++ [v])) Q E s := by
  refine wpAny_list_append_plain (X.pl List.mem_cons_self) (fun h' hp hs => hQ h' (X.turnS hs ?_)) (by simpa using hsz)
  obtain ⟨n, e⟩ := hp
  exact ⟨_, e, n, by simp⟩
/-- a store into the ledger's first -/
theorem setItem0 {Q : Unit → Shared → Prop} {l : Addr} {vs : List Value} {k : Int} {t : Tok} (X : Fx fr g0 h0 g L s.heap m ((l, isLst vs) :: led)) (h0k : 0 ≤ k) (hk : k < vs.length) (hfit : k < 2 ^ 63)
    (hQ : ∀ h', Fx fr g0 h0 g L h' m ((l, isLst (vs.set k.toNat v)) :: led) → Q () { s with heap := h' }) : wpAny (Md w) A (setItem (.ref l) (.int k t) v) Q E s := by
  refine wpAny_setItem_list (X.lst List.mem_cons_self) h0k hfit (by simpa using hk) fun h' hl hs => hQ h' (X.turnS hs ?_)
  obtain ⟨o, ho, hc, n, hd⟩ := hl
  exact ⟨o, ho, hc, n, by rw [hd]; simp⟩
end

section
variable {w : World} {A : Around} {E : Value → Shared → Prop} {s : Shared} {env : Env} {sc : Scope} {cl : List (Str × Addr)}
variable {fr : List Addr} {g0 h0 g : Heap} {L : Addr} {m : Str → Option Value} {led : List (Addr × (Obj → Prop))} {x : Str}

/-- for x in range(n) -/
theorem for_range {k : Nat} {px : Pos} {body : List Stmt} {n : Nat} {Q : Flow → Shared → Prop} {R : Result → Shared → Prop} {r : Addr} {t u v : Tok}
    (J : Nat → Heap → (Str → Option Value) → List (Addr × (Obj → Prop)) → Prop) (rm : Rm A k) (he : EnvIs env sc L cl) (hx : sc.names.lookup x = some .local)
    (X : Fx fr g0 h0 g L s.heap m led) (hr : IsRange s.heap r 0 n 1 t u v) (hn : n < 2 ^ 60) (hfr : FrOk fr h0) (hj : J 0 g m led)
    (turn : ∀ i g' m' led' h tk it I E' t, i < n → Hk g g' → J i g' m' led' → Fx fr g0 h0 g' L h (mset m' x (.int (i : Nat) t)) ((I, it) :: led') →
      wpAny (Md w) A (execs body env) (TurnPost fr g0 h0 L I it g' (J (i + 1)) Q s) E' { s with heap := h, toks := tk })
    (done : ∀ g' m' led' h tk, Hk g g' → J n g' m' led' → Fx fr g0 h0 g' L h m' led' → Q .next { s with heap := h, toks := tk })
    (hR : ∀ f s', Q f s' → R (.ok f) s') :
    wpAny (Md w) A (pyIter (.ref r)) (fun it s₂ => codeAny (Md w) A (.forLoop (.Name x px) it body [] env) R s₂) E s := by
  have hsz : Builtin.Range.rangeSize 0 n 1 = n := by
    unfold Builtin.Range.rangeSize
    rw [if_pos (by decide)]
    split <;> omega
  refine wpAny_pyIter_range hr (by unfold Builtin.Range.small; rw [hsz]; simp [Builtin.Range.rangeFitsLong]; omega) ?_
  rw [hsz]
  have hk : Hk s.heap (s.heap.push { cls := .type "range_iterator", data := .fields #[rawInt 0, rawInt n, rawInt 1] }) := Hk.push _ _
  have X₁ := X.add hk (size_none _) (Heap.get?_push_size _ rfl) (P := fun _ => True) trivial
  refine for_name (s := { s with heap := s.heap.push { cls := .type "range_iterator", data := .fields #[rawInt 0, rawInt n, rawInt 1] } }) (Walks.range rm.hh s.heap.objs.size 0 1 n) ?_ J he hx X₁ (by simpa using Heap.get?_push_size _ rfl) ?_ (hfr.off X (size_none _)) hj
    (fun i v g' m' led' h tk it E' hi hP hk hJ X' => ?_) done hR
  · intro i h ho; exact ⟨_, ho⟩
  · intro b hb
    exact .inl (by simpa using hb)
  · obtain ⟨t, rfl⟩ := hP
    simp only [Int.zero_add, Int.mul_one] at X'
    exact turn i g' m' led' h tk it _ E' t hi hk hJ X'
end
section
variable {w : World} {A : Around} {E : Value → Shared → Prop} {s : Shared}

theorem EnvIs.inter {env : Env} {sc : Scope} {L : Addr} {cl : List (Str × Addr)} (he : EnvIs env sc L cl) : interactive env = false := by
  unfold interactive; rw [he.k]; rfl

theorem StrsAre.at {vs : List Value} {ys : List Str} (h : StrsAre vs ys) : ∀ {i : Nat} {v : Value}, vs[i]? = some v → ∃ (hi : i < ys.length) (t : Tok), v = .str ys[i] t := by
  induction h with
  | nil => intro i v hv; simp at hv
  | cons y t _ ih =>
    intro i v hv
    cases i with
    | zero => simp at hv; exact ⟨by simp, t, hv.symm⟩
    | succ i =>
      simp at hv
      obtain ⟨hi, t', e⟩ := ih hv
      exact ⟨by simpa using hi, t', by simpa using e⟩
theorem StrsAre.get {vs : List Value} {ys : List Str} (h : StrsAre vs ys) {i : Nat} (hi : i < ys.length) : ∃ t, vs[i]? = some (.str ys[i] t) := by
  have hl := StrsAre.length h
  have h1 : i < vs.length := by omega
  obtain ⟨_, t, e⟩ := StrsAre.at h (i := i) (v := vs[i]) (by simp [h1])
  exact ⟨t, by rw [← e]; simp [h1]⟩
theorem strs_append {vs us : List Value} {xs ys : List Str} (h : StrsAre vs xs) (h' : StrsAre us ys) : StrsAre (vs ++ us) (xs ++ ys) := h.append' h'

theorem in_strs {Q : Value → Shared → Prop} {l : Addr} {vs : List Value} {ys : List Str} {k : Str} {t : Tok} (hl : s.heap.IsList l vs.toArray) (hi : StrsAre vs ys) (h : Q (.bool (decide (k ∈ ys))) s) :
    wpAny (Md w) A (compareOp .In (.str k t) (.ref l)) Q E s :=
  in_list_strs hl hi (by rwa [show ys.any (· == k) = decide (k ∈ ys) from by rw [Bool.eq_iff_iff]; simp])
theorem notin_strs {Q : Value → Shared → Prop} {l : Addr} {vs : List Value} {ys : List Str} {k : Str} {t : Tok} (hl : s.heap.IsList l vs.toArray) (hi : StrsAre vs ys) (h : Q (.bool (decide (k ∉ ys))) s) :
    wpAny (Md w) A (compareOp .NotIn (.str k t) (.ref l)) Q E s :=
  notin_list_strs hl hi (by rwa [show (!(ys.any (· == k))) = decide (k ∉ ys) from by rw [Bool.eq_iff_iff]; simp; exact ⟨fun h q => h _ q rfl, fun h x hx q => h (q ▸ hx)⟩])

def strIs (k : Str) : Value → Bool
  | .str y _ => decide (y = k)
  | _ => false
theorem index_strs {Q : Value → Shared → Prop} {l : Addr} {vs : List Value} {ys : List Str} {k : Str} {t : Tok} (hl : s.heap.PlainList l vs.toArray) (hi : StrsAre vs ys) (hk : k ∈ ys) (hn : ys.length < 2 ^ 60)
    (h : ∀ u, Q (.int (ys.idxOf k : Nat) u) { s with toks := s.toks + 1 }) : wpAny (Md w) A (call (.builtin "list.index") [.ref l, .str k t]) Q E s := by
  obtain ⟨n, ho⟩ := hl
  have hlen := StrsAre.length hi
  have hj : ys.idxOf k < ys.length := List.idxOf_lt_length_iff.mpr hk
  refine call_meets PySem.F.slot_list_index ⟨_, ho, rfl⟩ PySem.F.entry_list_index (PySem.F.args_list_index_2 _ _)
    (MeetsSeq.list_index l vs.toArray n (.str k t) (strIs k) (fun y hy => ?_) (ys.idxOf k) (by simpa [hlen] using hj) (by omega) ?_ ?_) ⟨ho, h _⟩
  · obtain ⟨i, hi', rfl⟩ := List.mem_iff_getElem.mp (by simpa using hy : y ∈ vs)
    obtain ⟨_, u, e⟩ := StrsAre.at hi (i := i) (v := vs[i]) (by simp [hi'])
    rw [e]
    intro prog w A E s Q hq
    exact wpAny_eqBool_str hq
  · have h1 : ys.idxOf k < vs.length := by omega
    obtain ⟨_, u, e⟩ := StrsAre.at hi (i := ys.idxOf k) (v := vs[ys.idxOf k]) (by simp [h1])
    show strIs k vs[ys.idxOf k] = true
    rw [e]; simp [strIs]
  · intro m hm hlt
    have h1 : m < vs.length := by simpa using hm
    obtain ⟨hm', u, e⟩ := StrsAre.at hi (i := m) (v := vs[m]) (by simp [h1])
    show strIs k vs[m] = false
    rw [e]
    simp only [strIs, decide_eq_false_iff_not]
    intro q
    have := List.not_of_lt_findIdx (p := (· == k)) (xs := ys) (i := m) hlt
    simp [q] at this

section
variable {mg mb : Str → Option Value} {fr : List Addr} {g0 h0 g : Heap} {L : Addr} {m : Str → Option Value} {led : List (Addr × (Obj → Prop))} {x C : Addr} {fs : Str → Option Value} {name : Str} {v : Value}
theorem attr_g {Q : Value → Shared → Prop} {expr : Bool} {attr : Option Value} (I : ObjAt g x C fs) (hv : fs name = some v) (X : Fx fr g0 h0 g L s.heap m led) (W : Wd w mg mb g)
    (hg : plainGet (Kf w) C name = true) (hh : hasDictIn (Kf w) C = true) (ha : findIn (Kf w) (.ref C) name = some attr) (hn : noGet (Kf w) attr = true)
    (hh' : handedIn v = true) (hQ : Q v { s with toks := s.toks + 1 }) : wpAny (Md w) A (getAttr (.ref x) name expr) Q E s := attr_own W X.now (I.hk X.now) hg hh ha hn hv hh' hQ
theorem meth_g {Q : Value × List Value → Shared → Prop} {f : Addr} {pl : Sem Bool} (I : ObjAt g x C fs) (hv : fs name = none) (X : Fx fr g0 h0 g L s.heap m led) (W : Wd w mg mb g)
    (hg : plainGet (Kf w) C name = true) (hf : findIn (Kf w) (.ref C) name = some (some (.ref f))) (ht : isFn (Kf w) (.ref f) = true) (hQ : Q (.ref f, [.ref x]) s) :
    wpAny (Md w) A (getMethod (.ref x) name pl) Q E s := meth_inst W X.now (I.hk X.now) hg hf ht hv hQ
end

theorem bb_len : bootBuiltins "len" = some (.builtin "len") := by rfl
theorem bb_abs : bootBuiltins "abs" = some (.builtin "abs") := by rfl
theorem bb_range : bootBuiltins "range" = some (.type "range") := by rfl
theorem bb_int : bootBuiltins "int" = some (.type "int") := by rfl
theorem bb_list : bootBuiltins "list" = some (.type "list") := by rfl
theorem bb_tuple : bootBuiltins "tuple" = some (.type "tuple") := by rfl
theorem bb_enumerate : bootBuiltins "enumerate" = some (.type "enumerate") := by rfl
theorem bb_str : bootBuiltins "str" = some (.type "str") := by rfl
section
variable {mg mb : Str → Option Value} {env : Env} {sc : Scope} {cl : List (Str × Addr)} {fr : List Addr} {g0 h0 g : Heap} {L : Addr} {m : Str → Option Value} {led : List (Addr × (Obj → Prop))} {x : Str} {pos : Pos} {v : Value}
theorem ldb' {Q : Value → Shared → Prop} (hb : bootBuiltins x = some v) (W : Wd w mg mb g) (X : Fx fr g0 h0 g L s.heap m led) (he : EnvIs env sc L cl) (hx : sc.names.lookup x = some .globalImplicit) (e : nsIn (Kf w) mainGlobals x = some none)
    (h : Q v s) (hn : x ≠ "__name__" := by decide +kernel)
    (hd : (x == ("__debug__" : Str)) = false := by decide +kernel) : wpAny (Md w) A (eval (.Name x pos) env) Q E s := ldb W X he hx e hb h hn hd
end

theorem len_list {Q : Value → Shared → Prop} {l : Addr} {vs : List Value} (hl : s.heap.IsList l vs.toArray) (hn : vs.length < 2 ^ 60) (h : ∀ t tk, Q (.int (vs.length : Nat) t) { s with toks := tk }) :
    wpAny (Md w) A (call (.builtin "len") [.ref l]) Q E s :=
  call_len_list hl (by simp; omega) (by simpa using h _ _)
end

section
def RuleAt (g : Heap) (v : Value) (l : Nat) (r : List Nat) : Prop :=
  ∃ x fs t a vs, v = .ref x ∧ ObjAt g x 80 fs ∧ fs "left" = some (.int l t) ∧ fs "right" = some (.ref a) ∧ g.IsTuple a vs.toArray ∧ IntsAre vs (nats r) ∧ ∃ num tn, fs "number" = some (.int num tn)
theorem RuleAt.hk {g g' : Heap} {v : Value} {l : Nat} {r : List Nat} (X : RuleAt g v l r) (hk : Hk g g') : RuleAt g' v l r := by
  obtain ⟨x, fs, t, a, vs, e, I, h1, h2, h3, h4⟩ := X; exact ⟨x, fs, t, a, vs, e, I.hk hk, h1, h2, Heap.IsTuple.hk h3 hk, h4⟩
def RulesAre (g : Heap) (vs : List Value) (rs : List (Nat × List Nat)) : Prop := vs.length = rs.length ∧ ∀ i (h : i < vs.length) (h' : i < rs.length), RuleAt g vs[i] rs[i].1 rs[i].2
theorem RulesAre.hk {g g' : Heap} {vs : List Value} {rs : List (Nat × List Nat)} (X : RulesAre g vs rs) (hk : Hk g g') : RulesAre g' vs rs := ⟨X.1, fun i h h' => (X.2 i h h').hk hk⟩
theorem RulesAre.at {g : Heap} {vs : List Value} {rs : List (Nat × List Nat)} (X : RulesAre g vs rs) {i : Nat} {v : Value} (hv : vs[i]? = some v) : ∃ (h : i < rs.length), RuleAt g v rs[i].1 rs[i].2 := by
  obtain ⟨h1, rfl⟩ := List.getElem?_eq_some_iff.mp hv
  exact ⟨X.1 ▸ h1, X.2 i h1 (X.1 ▸ h1)⟩

structure GramAt (g : Heap) (x : Addr) (names : List Str) (tc : Nat) (rules : List (Nat × List Nat)) (fs : Str → Option Value) (an rn : Addr) (ns rs : List Value) : Prop where
  obj : ObjAt g x 162 fs
  hnames : fs "names" = some (.ref an)
  nat : g.PlainList an ns.toArray
  sts : StrsAre ns names
  htc : ∃ t, fs "terminal_count" = some (.int tc t)
  hrules : fs "rules" = some (.ref rn)
  rat : g.IsList rn rs.toArray
  rare : RulesAre g rs rules
  n1 : fs "symbol_count" = none
  n2 : fs "is_terminal" = none
  n3 : fs "number" = none
  few : names.length < 1000
theorem PlainHk {g g' : Heap} {a : Addr} {i : Array Value} (x : g.PlainList a i) (hk : Hk g g') : g'.PlainList a i := x.at fun o e => hk _ _ e
theorem GramAt.hk {g g' : Heap} {x : Addr} {names : List Str} {tc : Nat} {rules : List (Nat × List Nat)} {fs : Str → Option Value} {an rn : Addr} {ns rs : List Value} (X : GramAt g x names tc rules fs an rn ns rs) (hk : Hk g g') :
    GramAt g' x names tc rules fs an rn ns rs := ⟨X.obj.hk hk, X.hnames, PlainHk X.nat hk, X.sts, X.htc, X.hrules, Heap.IsList.hk X.rat hk, X.rare.hk hk, X.n1, X.n2, X.n3, X.few⟩
end
section
variable {w : World} {A : Around} {E : Value → Shared → Prop} {s : Shared} {mg mb : Str → Option Value} {env : Env}
variable {fr : List Addr} {g0 h0 g : Heap} {L : Addr} {m : Str → Option Value} {led : List (Addr × (Obj → Prop))} {v : Value}
abbrev pr : Program := PySem.Challenge.rw_qd0057_01.row.prog
abbrev IK (w : World) : KeyKind pr w Int := intKind pr w
abbrev SK (w : World) : KeyKind pr w Str := strKind pr w
/-- a dict keyed by ints, by strs -/
def isDI (w : World) (kvs : List (Int × Value)) (o : Obj) : Prop := o.IsDictOf (IK w) kvs
def isDS (w : World) (kvs : List (Str × Value)) (o : Obj) : Prop := o.IsDictOf (SK w) kvs
theorem ik (w : World) (k : Int) (t : Tok) : (IK w).is k (.int k t) = true := by simp [intKind, Value.isInt]
theorem sk (w : World) (k : Str) (t : Tok) : (SK w).is k (.str k t) = true := strKind_is ..

theorem emptyDict_is {K : Type} [DecidableEq K] (knd : KeyKind pr w K) : Obj.IsDictOf knd { cls := .type "dict", data := .dict #[] } [] :=
  ⟨#[], 0, ⟨rfl, rfl, rfl⟩, rfl, fun _ he => by simp at he, .nil, .nil⟩

theorem newDict_l {K : Type} [DecidableEq K] (knd : KeyKind pr w K) {pos : Pos} {Q : Value → Shared → Prop} (X : Fx fr g0 h0 g L s.heap m led) (W : Wd w mg mb g)
    (hQ : ∀ a h', s.heap.get? a = none → (a == sysModules) = false → Fx fr g0 h0 g L h' m ((a, fun o => o.IsDictOf knd []) :: led) → Q (.ref a) { s with heap := h' }) : wpAny (Md w) A (eval (.Dict [] [] pos) env) Q E s := by
  refine wpAny_Dict_empty ?_
  have hs := size_none s.heap
  have hlt : mainGlobals < s.heap.objs.size := (W.G.keeps X.now).lt
  exact hQ _ _ hs (by have : sysModules ≤ mainGlobals := by decide
                      simp only [beq_eq_false_iff_ne]; exact Nat.ne_of_gt (Nat.lt_of_le_of_lt this hlt)) (X.add (Hk.push s.heap { cls := .type "dict", data := .dict #[] }) hs (Heap.get?_push_size _ rfl) (emptyDict_is knd))

theorem dset0 {K : Type} [DecidableEq K] {knd : KeyKind pr w K} {Q : Unit → Shared → Prop} {d : Addr} {kvs : List (K × Value)} {k : K} {key : Value} (hkey : knd.is k key = true) (hsz : kvs.length ≤ 1000)
    (X : Fx fr g0 h0 g L s.heap m ((d, fun o => o.IsDictOf knd kvs) :: led))
    (hQ : ∀ h', Fx fr g0 h0 g L h' m ((d, fun o => o.IsDictOf knd (stored kvs k v)) :: led) → Q () { s with heap := h', toks := s.toks + 1 }) : wpAny (Md w) A (setItem (.ref d) key v) Q E s :=
  wpAny_setItem_pairs hkey (Heap.dictOf_iff.mpr (X.at List.mem_cons_self)) (fun h' hm hs => hQ h' (X.turnS hs (Heap.dictOf_iff.mp hm))) (by rw [sizeLine_eq]; omega)

theorem dpop0 {K : Type} [DecidableEq K] {knd : KeyKind pr w K} {Q : Value → Shared → Prop} {d : Addr} {kvs : List (K × Value)} {k : K} {key : Value} (hkey : knd.is k key = true) (hpart : (keyPart key).isSome = true) (hsz : kvs.length ≤ 1000)
    (hd : (d == sysModules) = false) (X : Fx fr g0 h0 g L s.heap m ((d, fun o => o.IsDictOf knd kvs) :: led))
    (hQ : ∀ u h', Fx fr g0 h0 g L h' m ((d, fun o => o.IsDictOf knd (without kvs k)) :: led) → Q u { s with heap := h', toks := s.toks + 1 }) : wpAny (Md w) A (call (.builtin "dict.pop") [.ref d, key, .none]) Q E s := by
  have hD : s.heap.DictOf knd d kvs := Heap.dictOf_iff.mpr (X.at List.mem_cons_self)
  cases hv : valueAt kvs k with
  | some v =>
    exact call_meetsIn PySem.F.slot_dict_pop hD.typeIs PySem.F.entry_dict_pop (PySem.F.args_dict_pop_3 _ _ _) (meets_dict_pop_there knd d hkey [.none] (.inr ⟨_, rfl⟩) hpart)
      ⟨kvs, v, hD, by rw [sizeLine_eq]; omega, hv, fun h' hm hs => hQ _ h' (X.turnS hs (Heap.dictOf_iff.mp hm))⟩
  | none =>
    refine call_meetsIn PySem.F.slot_dict_pop hD.typeIs PySem.F.entry_dict_pop (PySem.F.args_dict_pop_3 _ _ _) (meets_dict_pop_default knd d hkey hd hpart .none) ⟨kvs, hD, hv, ?_⟩
    have e : without kvs k = kvs := by
      unfold without
      rw [List.filter_eq_self]
      intro p hp
      simp only [decide_eq_true_eq]
      rintro rfl
      unfold valueAt at hv
      rw [Option.map_eq_none_iff, List.find?_eq_none] at hv
      exact hv p hp (by simp)
    exact hQ _ s.heap (by rw [e]; exact X)

theorem meth_dict {K : Type} [DecidableEq K] {knd : KeyKind pr w K} {kvs : List (K × Value)} {Q : Value × List Value → Shared → Prop} {l : Addr} {name : Str} {id : String} {pl : Sem Bool} (hl : ∃ o, s.heap.get? l = some o ∧ o.IsDictOf knd kvs) (slot : Slot "dict" name id) (hty : typeOf (.builtin id) = pure (.type "method_descriptor"))
    (hQ : Q (.builtin id, [.ref l]) s) : wpAny (Md w) A (getMethod (.ref l) name pl) Q E s := by
  have hD : s.heap.DictOf knd l kvs := Heap.dictOf_iff.mpr hl
  have hD' := hD
  obtain ⟨o, es, ep, ho, hx, r⟩ := hD'
  exact getMethod_builtin hD.typeIs PySem.F.plainAttrs_dict slot hty (fun a q => by cases q; exact ⟨_, ho, hx.2.1⟩) hQ
end

section
variable {w : World} {A : Around} {E : Value → Shared → Prop} {s : Shared} {env : Env}
variable {fr : List Addr} {g0 h0 g : Heap} {L : Addr} {m : Str → Option Value} {led : List (Addr × (Obj → Prop))}
def WhileEnd (fr : List Addr) (g0 h0 : Heap) (L : Addr) (gb : Heap) (n : Nat) (J : Nat → Heap → (Str → Option Value) → List (Addr × (Obj → Prop)) → Prop) (s s' : Shared) : Prop :=
  ∃ n' g' m' led' h' tk', s' = { s with heap := h', toks := tk' } ∧ n' < n ∧ Hk gb g' ∧ Fx fr g0 h0 g' L h' m' led' ∧ J n' g' m' led'
theorem WhileEnd.mk {gb g' : Heap} {n n' : Nat} {J : Nat → Heap → (Str → Option Value) → List (Addr × (Obj → Prop)) → Prop} {h' : Heap} {m' : Str → Option Value} {led' : List (Addr × (Obj → Prop))} {s' : Shared} {tk' : Nat}
    (hn : n' < n) (hk : Hk gb g') (X : Fx fr g0 h0 g' L h' m' led') (j : J n' g' m' led') (e : s' = { s with heap := h', toks := tk' } := by with_unfolding_all rfl) : WhileEnd fr g0 h0 L gb n J s s' := ⟨n', g', m', led', h', tk', e, hn, hk, X, j⟩
def WhilePost (fr : List Addr) (g0 h0 : Heap) (L : Addr) (gb : Heap) (n : Nat) (J : Nat → Heap → (Str → Option Value) → List (Addr × (Obj → Prop)) → Prop) (Q : Flow → Shared → Prop) (s : Shared) (f : Flow) (s' : Shared) : Prop :=
  match f with
  | .ret v => Q (.ret v) s'
  | .brk => Q .next s'
  | _ => WhileEnd fr g0 h0 L gb n J s s'
theorem WhilePost_next {gb : Heap} {n : Nat} {J : Nat → Heap → (Str → Option Value) → List (Addr × (Obj → Prop)) → Prop} {Q : Flow → Shared → Prop} {s s' : Shared} (h : WhileEnd fr g0 h0 L gb n J s s') : WhilePost fr g0 h0 L gb n J Q s .next s' := h
theorem while_fx {test : Expr} {body : List Stmt} {Q : Flow → Shared → Prop} {R : Result → Shared → Prop} (n₀ : Nat)
    (J : Nat → Heap → (Str → Option Value) → List (Addr × (Obj → Prop)) → Prop) (X : Fx fr g0 h0 g L s.heap m led) (hj : J n₀ g m led)
    (turn : ∀ n g' m' led' h tk E', Hk g g' → J n g' m' led' → Fx fr g0 h0 g' L h m' led' →
      wpAny (Md w) A (isTrue test env (eval test env)) (fun b s₂ => if b = true then wpAny (Md w) A (execs body env) (WhilePost fr g0 h0 L g' n J Q s) E' s₂ else Q .next s₂) E' { s with heap := h, toks := tk })
    (hR : ∀ f s', Q f s' → R (.ok f) s') : codeAny (Md w) A (.whileLoop test body [] env) R s := by
  refine codeAny_whileLoop (fun n s' => ∃ g' m' led' h tk, s' = { s with heap := h, toks := tk } ∧ Hk g g' ∧ Fx fr g0 h0 g' L h m' led' ∧ J n g' m' led') ?_ n₀ ⟨g, m, led, s.heap, s.toks, rfl, Hk.refl _, X, hj⟩
  rintro n s' ⟨g', m', led', h, tk, rfl, hk, X', hJ⟩
  refine wpAny_mono (turn n g' m' led' h tk _ hk hJ X') (fun b s₂ q => ?_) fun _ _ e => e
  cases b with
  | false => exact wpAny_execs_nil (hR _ _ (by simpa using q))
  | true =>
    simp only [if_true] at q ⊢
    refine wpAny_mono q (fun f s₃ q => ?_) fun _ _ e => e
    have next : WhileEnd fr g0 h0 L g' n J s s₃ → ∃ k, k < n ∧ ∃ g' m' led' h tk, s₃ = { s with heap := h, toks := tk } ∧ Hk g g' ∧ Fx fr g0 h0 g' L h m' led' ∧ J k g' m' led' := by
      rintro ⟨n', g₃, m₃, led₃, h₃, tk₃, e, hn, hk₃, X₃, hJ₃⟩
      exact ⟨n', hn, g₃, m₃, led₃, h₃, tk₃, e, hk.trans hk₃, X₃, hJ₃⟩
    cases f with
    | ret v => exact hR _ _ q
    | brk => exact hR _ _ q
    | next => exact next q
    | cont => exact next q
end
/-- the lengths at the start -/
def initL (n tc : Nat) : List Int := (List.range n).map fun i => if i < tc ∧ i ≠ 1 then 1 else -1
theorem initL_take {n tc i : Nat} (h : i < n) : (initL n tc).take (i + 1) = (initL n tc).take i ++ [if i < tc ∧ i ≠ 1 then 1 else -1] := by
  rw [List.take_add_one]
  unfold initL
  simp [h]
/-- one rule -/
def rstep (L : List Int) (C : List (Nat × Nat)) (i l : Nat) (r : List Nat) : List Int × List (Nat × Nat) × Bool :=
  if 0 ≤ jlen L r 0 ∧ (L.getD l 0 < 0 ∨ jlen L r 0 < L.getD l 0) then (L.set l (jlen L r 0), C.filter (fun p => decide (p.1 ≠ l)) ++ [(l, i)], true) else (L, C, false)
/-- the rules from the i-th on -/
def rpass : List (Nat × List Nat) → Nat → List Int × List (Nat × Nat) × Bool → List Int × List (Nat × Nat) × Bool
  | [], _, st => st
  | (l, r) :: rest, i, (L, C, b) => rpass rest (i + 1) ((rstep L C i l r).1, (rstep L C i l r).2.1, b || (rstep L C i l r).2.2)
/-- a whole pass -/
def pass (rules : List (Nat × List Nat)) (st : List Int × List (Nat × Nat)) : List Int × List (Nat × Nat) := ((rpass rules 0 (st.1, st.2, false)).1, (rpass rules 0 (st.1, st.2, false)).2.1)
def changes (rules : List (Nat × List Nat)) (st : List Int × List (Nat × Nat)) : Bool := (rpass rules 0 (st.1, st.2, false)).2.2
def passes (rules : List (Nat × List Nat)) (st : List Int × List (Nat × Nat)) : Nat → List Int × List (Nat × Nat)
  | 0 => st
  | n + 1 => pass rules (passes rules st n)
theorem rstep_len {L : List Int} {C : List (Nat × Nat)} {i l : Nat} {r : List Nat} : (rstep L C i l r).1.length = L.length := by
  unfold rstep; split <;> simp
theorem rpass_len : ∀ {rules : List (Nat × List Nat)} {i : Nat} {st : List Int × List (Nat × Nat) × Bool}, (rpass rules i st).1.length = st.1.length
  | [], _, _ => rfl
  | (l, r) :: rest, i, (L, C, b) => by rw [rpass, rpass_len]; exact rstep_len
theorem passes_len {rules : List (Nat × List Nat)} {st : List Int × List (Nat × Nat)} : ∀ n, (passes rules st n).1.length = st.1.length
  | 0 => rfl
  | n + 1 => by show (rpass _ _ _).1.length = _; rw [rpass_len]; exact passes_len n

/-- the chosen rules as a dict -/
def kvC (rs : List Value) (C : List (Nat × Nat)) : List (Int × Value) := C.map fun p => ((p.1 : Int), rs.getD p.2 .none)
theorem kvC_without (rs : List Value) (C : List (Nat × Nat)) (l : Nat) : without (kvC rs C) (l : Int) = kvC rs (C.filter fun p => decide (p.1 ≠ l)) := by
  unfold without kvC
  rw [List.filter_map]
  congr 1
  apply List.filter_congr
  intro p _
  simp only [Function.comp]
  rw [decide_eq_decide]
  omega
theorem stored_new {K : Type} [DecidableEq K] {kvs : List (K × Value)} {k : K} {v : Value} (h : ∀ p ∈ kvs, p.1 ≠ k) : stored kvs k v = kvs ++ [(k, v)] := by
  unfold stored
  rw [if_neg]
  simp only [List.any_eq_true, not_exists, not_and, decide_eq_true_eq]
  exact h
theorem stored_kvC (rs : List Value) (C : List (Nat × Nat)) (l i : Nat) (v : Value) (h : rs[i]? = some v) : stored (kvC rs (C.filter fun p => decide (p.1 ≠ l))) (l : Int) v = kvC rs (C.filter (fun p => decide (p.1 ≠ l)) ++ [(l, i)]) := by
  rw [stored_new]
  · unfold kvC; simp [h]
  · intro p hp
    obtain ⟨q, hq, rfl⟩ := List.mem_map.mp hp
    have := (List.mem_filter.mp hq).2
    simp only [decide_eq_true_eq] at this
    show ((q.1 : Nat) : Int) ≠ l
    omega
theorem IntsAre_set {vs : List Value} {ns : List Int} (h : IntsAre vs ns) (k : Nat) (i : Int) (t : Tok) : IntsAre (vs.set k (.int i t)) (ns.set k i) := by
  induction h generalizing k with
  | nil => exact .nil
  | cons n t' h ih =>
    cases k with
    | zero => exact .cons _ _ h
    | succ k => exact .cons _ _ (ih k)

theorem rpass_append : ∀ (a b : List (Nat × List Nat)) (i : Nat) (st : List Int × List (Nat × Nat) × Bool), rpass (a ++ b) i st = rpass b (i + a.length) (rpass a i st)
  | [], b, i, st => rfl
  | (l, r) :: a, b, i, (L, C, c) => by
    rw [List.cons_append, rpass, rpass_append a b, rpass, List.length_cons, Nat.add_assoc, Nat.add_comm 1]
theorem rpass_take {rules : List (Nat × List Nat)} {j : Nat} (h : j < rules.length) (L : List Int) (C : List (Nat × Nat)) (b : Bool) {L' : List Int} {C' : List (Nat × Nat)} {b' : Bool} (e : rpass (rules.take j) 0 (L, C, b) = (L', C', b')) :
    rpass (rules.take (j + 1)) 0 (L, C, b) = ((rstep L' C' j rules[j].1 rules[j].2).1, (rstep L' C' j rules[j].1 rules[j].2).2.1, b' || (rstep L' C' j rules[j].1 rules[j].2).2.2) := by
  have ht : rules.take (j + 1) = rules.take j ++ [rules[j]] := by rw [List.take_add_one]; simp [h]
  rw [ht, rpass_append, e, List.length_take, Nat.min_eq_left (Nat.le_of_lt h), Nat.zero_add]
  show rpass [(rules[j].1, rules[j].2)] j (L', C', b') = _
  rfl
theorem rpass_false : ∀ {rules : List (Nat × List Nat)} {i : Nat} {L : List Int} {C : List (Nat × Nat)}, (rpass rules i (L, C, false)).2.2 = false → rpass rules i (L, C, false) = (L, C, false)
  | [], _, _, _, _ => rfl
  | (l, r) :: rest, i, L, C, h => by
    have mono : ∀ (rest : List (Nat × List Nat)) (i : Nat) (L : List Int) (C : List (Nat × Nat)), (rpass rest i (L, C, true)).2.2 = true := by
      intro rest
      induction rest with
      | nil => intro i L C; rfl
      | cons p rest ih => intro i L C; obtain ⟨l, r⟩ := p; rw [rpass, Bool.true_or]; exact ih _ _ _
    rw [rpass] at h ⊢
    unfold rstep at h ⊢
    split at h
    · rw [Bool.false_or, mono] at h; cases h
    · rename_i hc
      rw [if_neg hc]
      exact rpass_false h
theorem pass_same {rules : List (Nat × List Nat)} {st : List Int × List (Nat × Nat)} (h : changes rules st = false) : pass rules st = st := by
  unfold pass
  rw [rpass_false h]

theorem nodup_lt : ∀ (n : Nat) (l : List Nat), l.Nodup → (∀ x ∈ l, x < n) → l.length ≤ n
  | 0, l, _, h => by
    cases l with
    | nil => exact Nat.le_refl _
    | cons a l => exact absurd (h a List.mem_cons_self) (Nat.not_lt_zero _)
  | n + 1, l, hn, h => by
    have ih := nodup_lt n (l.erase n) (hn.erase n) (fun x hx => by
      have h1 := h x (List.mem_of_mem_erase hx)
      have h2 : x ≠ n := fun q => by subst q; exact hn.not_mem_erase hx
      omega)
    by_cases hm : n ∈ l
    · have := List.length_erase_of_mem hm; omega
    · rw [List.erase_of_not_mem hm] at ih; omega
/-- the chosen: each left once -/
def Cok (n : Nat) (C : List (Nat × Nat)) : Prop := (C.map (·.1)).Nodup ∧ ∀ p ∈ C, p.1 < n
theorem Cok.len {n : Nat} {C : List (Nat × Nat)} (h : Cok n C) : C.length ≤ n := by
  have := nodup_lt n (C.map (·.1)) h.1 (fun x hx => by obtain ⟨p, hp, rfl⟩ := List.mem_map.mp hx; exact h.2 p hp)
  simpa using this
theorem Cok.put {n l i : Nat} {C : List (Nat × Nat)} (h : Cok n C) (hl : l < n) : Cok n (C.filter (fun p => decide (p.1 ≠ l)) ++ [(l, i)]) := by
  refine ⟨?_, fun p hp => ?_⟩
  · rw [List.map_append, List.nodup_append]
    refine ⟨h.1.sublist (List.Sublist.map _ List.filter_sublist), by simp, ?_⟩
    intro a ha b hb
    obtain ⟨p, hp, rfl⟩ := List.mem_map.mp ha
    simp only [List.map_cons, List.map_nil, List.mem_singleton] at hb
    have := (List.mem_filter.mp hp).2
    simp only [decide_eq_true_eq] at this
    rw [hb]; exact this
  · rcases List.mem_append.mp hp with hp | hp
    · exact h.2 p (List.mem_filter.mp hp).1
    · rw [List.mem_singleton.mp hp]; exact hl
theorem rstep_ok {n : Nat} {L : List Int} {C : List (Nat × Nat)} {i l : Nat} {r : List Nat} (h : Cok n C) (hl : l < n) : Cok n (rstep L C i l r).2.1 := by
  unfold rstep; split
  · exact h.put hl
  · exact h
theorem rpass_ok {n : Nat} : ∀ {rules : List (Nat × List Nat)} {i : Nat} {st : List Int × List (Nat × Nat) × Bool}, (∀ p ∈ rules, p.1 < n) → Cok n st.2.1 → Cok n (rpass rules i st).2.1
  | [], _, _, _, h => h
  | (l, r) :: rest, i, (L, C, b), hr, h => by
    rw [rpass]
    exact rpass_ok (fun p hp => hr p (List.mem_cons_of_mem _ hp)) (rstep_ok h (hr _ List.mem_cons_self))
theorem passes_ok {n : Nat} {rules : List (Nat × List Nat)} {st : List Int × List (Nat × Nat)} (hr : ∀ p ∈ rules, p.1 < n) (h : Cok n st.2) : ∀ i, Cok n (passes rules st i).2
  | 0 => h
  | i + 1 => rpass_ok hr (passes_ok hr h i)
section
variable {w : World} {A : Around} {E : Value → Shared → Prop} {s : Shared} {mg mb : Str → Option Value} {env : Env}
variable {fr : List Addr} {g0 h0 g : Heap} {L : Addr} {m : Str → Option Value} {led : List (Addr × (Obj → Prop))} {v : Value}
theorem range_g {Q : Value → Shared → Prop} {n : Int} {t : Tok} (f : FrOk fr h0) (X : Fx fr g0 h0 g L s.heap m led)
    (hQ : ∀ r g' h' tk t u v, Hk g g' → Fx fr g0 h0 g' L h' m led → IsRange g' r 0 n 1 t u v → Q (.ref r) { s with heap := h', toks := tk }) : wpAny (Md w) A (call (.type "range") [.int n t]) Q E s := by
  refine call_range_1 ?_
  have hs := size_none s.heap
  have Y := X.add (P := (· = { cls := .type "range", data := .fields #[.int 0 s.toks, .int n t, .int 1 (s.toks + 1)] })) (Hk.push s.heap { cls := .type "range", data := .fields #[.int 0 s.toks, .int n t, .int 1 (s.toks + 1)] }) hs (Heap.get?_push_size _ rfl) rfl
  obtain ⟨g', hk, ⟨o, ho, rfl⟩, Z⟩ := Y.freeze (f.off X hs)
  exact hQ _ g' _ _ _ _ _ hk Z ho
theorem IsRange.hk {g g' : Heap} {r : Addr} {a b c : Int} {t u v : Tok} (x : IsRange g r a b c t u v) (hk : Hk g g') : IsRange g' r a b c t u v := hk _ _ x
end
section
variable {w : World} {A : Around} {E : Value → Shared → Prop} {s : Shared} {mg mb : Str → Option Value} {env : Env} {sc : Scope} {cl : List (Str × Addr)}
variable {fr : List Addr} {g0 h0 g : Heap} {L : Addr} {m : Str → Option Value} {led : List (Addr × (Obj → Prop))} {v : Value} {x : Str}

theorem assign_tup {k : Nat} {elts : List Expr} {x1 : Nat} {pos : Pos} {t : Addr} {vs : List Value} {Q : Unit → Shared → Prop} (rm : Rm A k) (X : Fx fr g0 h0 g L s.heap m led) (ht : g.IsTuple t vs.toArray)
    (hn : (assignEach elts env).length = vs.length) (hstar : (assignEach elts env).findIdx? (·.1) = none)
    (hQ : ∀ h', Fx fr g0 h0 g L h' m led → wpAny (Md w) A (assignInOrder ((assignEach elts env).map (·.2)) vs) Q E { s with heap := h' }) :
    wpAny (Md w) A (assign (.Tuple elts x1 pos) env (.ref t)) Q E s :=
  wpAny_assign_Tuple rm.hh (Heap.IsTuple.hk ht X.now) (by simpa using hn) hstar fun h' hx => hQ h' (X.keeps fun b o e => hx b o (Nat.ne_of_lt (Heap.lt_size e)) e)

theorem assign2 {k : Nat} {x y : Str} {px py pos : Pos} {x1 : Nat} {t : Addr} {a b : Value} {Q : Unit → Shared → Prop} (rm : Rm A k) (X : Fx fr g0 h0 g L s.heap m led) (ht : g.IsTuple t [a, b].toArray)
    (hQ : ∀ h', Fx fr g0 h0 g L h' m led → wpAny (Md w) A (storeName env x a) (fun _ s₁ => wpAny (Md w) A (storeName env y b) Q E s₁) E { s with heap := h' }) :
    wpAny (Md w) A (assign (.Tuple [.Name x px, .Name y py] x1 pos) env (.ref t)) Q E s :=
  assign_tup rm X ht rfl rfl fun h' X => by
    show wpAny _ _ (assignInOrder [assign (.Name x px) env, assign (.Name y py) env] [a, b]) _ _ _
    exact wpAny_assignInOrder_more (wpAny_assign_Name (wpAny_mono (hQ h' X) (fun _ _ q => wpAny_assignInOrder_more (wpAny_assign_Name (wpAny_mono q (fun _ _ q => wpAny_assignInOrder_none q) fun _ _ e => e))) fun _ _ e => e))

theorem item_dict {K : Type} [DecidableEq K] {knd : KeyKind pr w K} {kvs : List (K × Value)} {value slice : Expr} {d : Addr} {k : K} {key : Value} {Q : Value → Shared → Prop} (hkey : knd.is k key = true)
    (hD : ∃ o, s.heap.get? d = some o ∧ o.IsDictOf knd kvs) (hv : valueAt kvs k = some v) (h : Q v { s with toks := s.toks + 1 })
    (hs : subscripted slice false (.ref d) key = operate [.ref d, key] (getItem (.ref d) key)) : wpAny (Md w) A (subscriptTail value slice (.ref d) key) Q E s :=
  have hm : s.heap.DictOf knd d kvs := Heap.dictOf_iff.mpr hD
  tail_any hm.typeIs slot_dict_getitem.lookup (wpAny_getItem_of hkey hm.mapOf hv h) hs

/-- for x in a dict that stands still -/
theorem for_dict {K : Type} [DecidableEq K] {knd : KeyKind pr w K} {kvs : List (K × Value)} {k : Nat} {px : Pos} {body : List Stmt} {d : Addr} {Q : Flow → Shared → Prop} {R : Result → Shared → Prop}
    (J : Nat → Heap → (Str → Option Value) → List (Addr × (Obj → Prop)) → Prop) (rm : Rm A k) (he : EnvIs env sc L cl) (hx : sc.names.lookup x = some .local)
    (X : Fx fr g0 h0 g L s.heap m led) (hD : ∃ o, g.get? d = some o ∧ o.IsDictOf knd kvs) (hd : (d == sysModules) = false) (hfr : FrOk fr h0) (hj : J 0 g m led)
    (turn : ∀ i v g' m' led' h tk it I E' kk x', kvs[i]? = some (kk, x') → knd.is kk v = true → Hk g g' → J i g' m' led' → Fx fr g0 h0 g' L h (mset m' x v) ((I, it) :: led') →
      wpAny (Md w) A (execs body env) (TurnPost fr g0 h0 L I it g' (J (i + 1)) Q s) E' { s with heap := h, toks := tk })
    (done : ∀ g' m' led' h tk, Hk g g' → J kvs.length g' m' led' → Fx fr g0 h0 g' L h m' led' → Q .next { s with heap := h, toks := tk })
    (hR : ∀ f s', Q f s' → R (.ok f) s') :
    wpAny (Md w) A (pyIter (.ref d)) (fun it s₂ => codeAny (Md w) A (.forLoop (.Name x px) it body [] env) R s₂) E s := by
  obtain ⟨o, ho, es, ep, r⟩ := hD
  have hAt : ∀ {h : Heap}, Hk g h → h.DictAt knd d kvs ep := fun hk => ⟨o, es, hk _ _ ho, r⟩
  refine wpAny_pyIter_dict hd (hAt X.now) ?_
  have hne : d ≠ s.heap.objs.size := Nat.ne_of_lt (Heap.lt_size (X.now _ _ ho))
  have hk : Hk s.heap (s.heap.push { cls := .type "dict_keyiterator", data := .fields #[.ref d, .int 0 0, .int kvs.length 0, .int ep 0] }) := Hk.push _ _
  have X₁ := X.add hk (size_none _) (Heap.get?_push_size _ rfl) (P := fun _ => True) trivial
  refine for_name (s := { s with heap := s.heap.push { cls := .type "dict_keyiterator", data := .fields #[.ref d, .int 0 0, .int kvs.length 0, .int ep 0] } })
    (Walks.dictKeys (prog := pr) (w := w) (knd := knd) rm.hh s.heap.objs.size d hne kvs ep) ?_ J he hx X₁ ⟨?_, hAt (X.now.trans hk)⟩ ?_ (hfr.off X (size_none _)) hj
    (fun i v g' m' led' h tk it E' _ hP hk hJ X' => ?_) done hR
  · rintro i h ⟨hit, _⟩
    obtain hit := hit
    first
      | exact ⟨_, hit⟩
      | (obtain ⟨o, ho, _⟩ := hit; exact ⟨o, ho⟩)
  · first
      | exact Heap.get?_push_size _ rfl
      | exact ⟨_, Heap.get?_push_size _ rfl, rfl, rfl⟩
  · intro b hb
    simp only [List.mem_cons, List.not_mem_nil, or_false] at hb
    rcases hb with rfl | rfl
    · exact .inl rfl
    · exact .inr ⟨o, ho⟩
  · obtain ⟨kk, x', h1, h2⟩ := hP
    exact turn i v g' m' led' h tk it _ E' kk x' h1 h2 hk hJ X'
end
/-- the words at the start -/
def initW (n tc : Nat) : List (Option (List Nat)) := (List.range n).map fun i => if i < tc ∧ i ≠ 1 then some [i] else none
theorem initW_take {n tc i : Nat} (h : i < n) : (initW n tc).take (i + 1) = (initW n tc).take i ++ [if i < tc ∧ i ≠ 1 then some [i] else none] := by
  rw [List.take_add_one]
  unfold initW
  simp [h]
theorem initW_len (n tc : Nat) : (initW n tc).length = n := by simp [initW]
/-- one chosen rule's word -/
def wstep (rules : List (Nat × List Nat)) (L : List Int) (W : List (Option (List Nat))) (p : Nat × Nat) : List (Option (List Nat)) :=
  if L.getD p.1 0 ≤ 10000 then W.set p.1 (jw W ((rules[p.2]?.map (·.2)).getD []) []) else W
def wfold (rules : List (Nat × List Nat)) (L : List Int) (C : List (Nat × Nat)) (W : List (Option (List Nat))) : List (Option (List Nat)) := C.foldl (wstep rules L) W
theorem wstep_len {rules : List (Nat × List Nat)} {L : List Int} {W : List (Option (List Nat))} {p : Nat × Nat} : (wstep rules L W p).length = W.length := by unfold wstep; split <;> simp
theorem wfold_len {rules : List (Nat × List Nat)} {L : List Int} : ∀ {C : List (Nat × Nat)} {W : List (Option (List Nat))}, (wfold rules L C W).length = W.length
  | [], _ => rfl
  | p :: C, W => by show (wfold rules L C (wstep rules L W p)).length = _; rw [wfold_len, wstep_len]
theorem wfold_take {rules : List (Nat × List Nat)} {L : List Int} {C : List (Nat × Nat)} {W : List (Option (List Nat))} {j : Nat} {p : Nat × Nat} (h : C[j]? = some p) : wfold rules L (C.take (j + 1)) W = wstep rules L (wfold rules L (C.take j) W) p := by
  unfold wfold
  rw [List.take_add_one, h]
  simp
/-- no word beyond the most -/
def Wsm (W : List (Option (List Nat))) : Prop := ∀ k x, W.getD k none = some x → x.length ≤ 10000
theorem WordsV_snoc {g : Heap} {vs : List Value} {W : List (Option (List Nat))} {v : Value} {o : Option (List Nat)} (h : WordsV g vs W) (hv : WordV g v o) : WordsV g (vs ++ [v]) (W ++ [o]) := by
  refine ⟨by simp [h.1], fun i h1 h2 => ?_⟩
  by_cases hi : i < vs.length
  · have hi' : i < W.length := h.1 ▸ hi
    rw [List.getElem_append_left hi, List.getElem_append_left hi']
    exact h.2 i hi hi'
  · have e : i = vs.length := by simp at h1; omega
    subst e
    have : W.length = vs.length := h.1.symm
    simp [this, List.getElem_append_right]
    exact hv
theorem WordsV_set {g : Heap} {vs : List Value} {W : List (Option (List Nat))} {v : Value} {o : Option (List Nat)} {k : Nat} (h : WordsV g vs W) (hv : WordV g v o) : WordsV g (vs.set k v) (W.set k o) := by
  refine ⟨by simp [h.1], fun i h1 h2 => ?_⟩
  rw [List.getElem_set, List.getElem_set]
  split
  · exact hv
  · exact h.2 i (by simpa using h1) (by simpa using h2)
theorem kvC_valueAt {rs : List Value} : ∀ {C : List (Nat × Nat)} {j : Nat} {p : Nat × Nat}, (C.map (·.1)).Nodup → C[j]? = some p → valueAt (kvC rs C) (p.1 : Int) = some (rs.getD p.2 .none)
  | q :: C, 0, p, _, h => by
    simp at h; subst h
    simp [valueAt, kvC]
  | q :: C, j + 1, p, hn, h => by
    rw [List.map_cons, List.nodup_cons] at hn
    simp at h
    have hm : p ∈ C := List.mem_of_getElem? h
    have hne : q.1 ≠ p.1 := fun e => hn.1 (e ▸ List.mem_map_of_mem hm)
    have ih := kvC_valueAt (rs := rs) hn.2 h
    unfold valueAt kvC at ih ⊢
    rw [List.map_cons, List.find?_cons_of_neg (by simp; omega)]
    exact ih
theorem kvC_get {rs : List Value} {C : List (Nat × Nat)} {j : Nat} {kk : Int} {x : Value} (h : (kvC rs C)[j]? = some (kk, x)) : ∃ p, C[j]? = some p ∧ kk = (p.1 : Int) ∧ x = rs.getD p.2 .none := by
  unfold kvC at h
  rw [List.getElem?_map] at h
  cases hc : C[j]? with
  | none => rw [hc] at h; cases h
  | some p => rw [hc] at h; cases h; exact ⟨p, rfl, rfl, rfl⟩

/-- each chosen rule is one of the rules, with that left -/
def Crl (rules : List (Nat × List Nat)) (C : List (Nat × Nat)) : Prop := ∀ p ∈ C, ∃ r, rules[p.2]? = some (p.1, r)
theorem rpass_rl {rules : List (Nat × List Nat)} : ∀ {rest : List (Nat × List Nat)} {i : Nat} {st : List Int × List (Nat × Nat) × Bool}, (∀ j, rest[j]? = rules[i + j]?) → Crl rules st.2.1 → Crl rules (rpass rest i st).2.1
  | [], _, _, _, h => h
  | (l, r) :: rest, i, (L, C, b), hr, h => by
    rw [rpass]
    refine rpass_rl (fun j => by have := hr (j + 1); rw [List.getElem?_cons_succ] at this; rw [this]; congr 1; omega) ?_
    show Crl rules (rstep L C i l r).2.1
    unfold rstep; split
    · intro p hp
      rcases List.mem_append.mp hp with hp | hp
      · exact h p (List.mem_filter.mp hp).1
      · rw [List.mem_singleton.mp hp]
        exact ⟨r, by have := hr 0; simpa using this.symm⟩
    · exact h
theorem passes_rl {rules : List (Nat × List Nat)} {st : List Int × List (Nat × Nat)} (h : Crl rules st.2) : ∀ i, Crl rules (passes rules st i).2
  | 0 => h
  | i + 1 => rpass_rl (fun j => by rw [Nat.zero_add]) (passes_rl h i)
section
variable {w : World} {A : Around} {E : Value → Shared → Prop} {s : Shared} {mg mb : Str → Option Value} {env : Env} {sc : Scope}
variable {fr : List Addr} {g0 h0 g : Heap} {L : Addr} {h h' : Heap} {m m' : Str → Option Value} {led : List (Addr × (Obj → Prop))} {v : Value} {d : Addr}

/-- all that stands but d, as one ledger -/
def allBut (L d : Addr) (h : Heap) : List (Addr × Obj) := (allNews L h).filter fun p => decide (p.1 ≠ d)
theorem mem_allBut {b : Addr} {o : Obj} (hb : b ≠ L) (hd : b ≠ d) (e : h.get? b = some o) : (b, o) ∈ allBut L d h :=
  List.mem_filter.mpr ⟨mem_allNews hb e, by simpa using hd⟩
theorem of_allBut {p : Addr × Obj} (hp : p ∈ allBut L d h) : p.1 ≠ L ∧ h.get? p.1 = some p.2 ∧ p.1 ≠ d := by
  obtain ⟨h1, h2⟩ := List.mem_filter.mp hp
  exact ⟨(of_allNews h1).1, (of_allNews h1).2, by simpa using h2⟩
theorem Fx.lib1 {P : Obj → Prop} (X : Fx fr g0 h0 g L h m ((d, P) :: led)) : ∃ o, P o ∧ h.get? d = some o ∧ Fr {} L h m ∧ News {} L h ([] ++ (d, o) :: allBut L d h) ∧ ∀ p ∈ allBut L d h, p.1 ≠ d := by
  obtain ⟨⟨o, ho, hP⟩, hL, _, _⟩ := X.led_ (d, P) List.mem_cons_self
  refine ⟨o, hP, ho, X.lib.1, fun p hp => ?_, fun p hp => (of_allBut hp).2.2⟩
  rcases List.mem_cons.mp hp with rfl | hp
  · exact ⟨ho, hL, empty_get _⟩
  · exact ⟨(of_allBut hp).2.1, (of_allBut hp).1, empty_get _⟩
theorem Fx.back1 {P P' : Obj → Prop} {o' : Obj} (X : Fx fr g0 h0 g L h m ((d, P) :: led)) (F : Fr {} L h' m') (N : News {} L h' ([] ++ (d, o') :: allBut L d h)) (hP : P' o') : Fx fr g0 h0 g L h' m' ((d, P') :: led) := by
  have k : ∀ b o, b ≠ L → b ≠ d → h.get? b = some o → h'.get? b = some o := fun b o hb hd e => (N _ (List.mem_cons_of_mem _ (mem_allBut hb hd e))).1
  have hd' := (N _ List.mem_cons_self).1
  obtain ⟨_, hL, hg, h0'⟩ := X.led_ (d, P) List.mem_cons_self
  have nd := List.nodup_cons.mp X.nd
  refine ⟨⟨X.old, fun b o e => k b o (fun q => by rw [q, X.off] at e; cases e) (fun q => by rw [q, hg] at e; cases e) (X.now b o e), X.new, fun b o hb e => ?_, fun b o e => ?_⟩, F.ns, X.off, X.off0, fun p hp => ?_, X.nd⟩
  · refine k b o (fun q => by rw [q, X.off0] at e; cases e) (fun q => ?_) (X.keep b o hb e)
    rcases h0' with h | h
    · rw [q, h] at e; cases e
    · exact hb (q ▸ h)
  · obtain ⟨o2, ho2⟩ := X.live b o e
    by_cases q : b = d
    · exact ⟨o', q ▸ hd'⟩
    · exact ⟨o2, k b o2 (fun q => by rw [q, X.off0] at e; cases e) q ho2⟩
  · rcases List.mem_cons.mp hp with rfl | hp
    · exact ⟨⟨o', hd', hP⟩, hL, hg, h0'⟩
    · obtain ⟨⟨o, ho, hp'⟩, hL', r⟩ := X.led_ p (List.mem_cons_of_mem _ hp)
      exact ⟨⟨o, k _ _ hL' (fun z => nd.1 (List.mem_map.mpr ⟨p, hp, z⟩)) ho, hp'⟩, hL', r⟩

/-- an object's own dict: its attributes, at most c of them -/
def AllStr (es : List DictEntry) : Prop := ∀ e ∈ es, ∃ x t, e.key = .str x t
def valL (k : Str) (es : List DictEntry) : Option Value := (es.find? (·.key.isStr k)).map (·.val)
theorem getL_valL {k : Str} {es : List DictEntry} (h : AllStr es) : getL k es = some (valL k es) := by
  unfold getL valL
  cases e : es.find? (·.key.isStr k) with
  | some a => rfl
  | none =>
    have : es.any (·.refKey) = false := by
      rw [List.any_eq_false]
      intro a ha
      obtain ⟨x, t, e⟩ := h a ha
      simp [DictEntry.refKey, e]
    simp [this]
theorem putL_str {name : Str} {hsh : Int} {t : Tok} {v : Value} : ∀ {es : List DictEntry}, AllStr es → AllStr (putL name hsh (.str name t) v es) ∧ ∀ k, valL k (putL name hsh (.str name t) v es) = if k = name then some v else valL k es
  | [], _ => ⟨fun e he => by rw [putL, List.mem_singleton] at he; subst he; exact ⟨_, _, rfl⟩, fun k => by
      by_cases hk : k = name
      · subst hk; simp [putL, valL, Value.isStr]
      · have : ¬ name = k := fun q => hk q.symm
        simp [putL, valL, Value.isStr, hk, this]⟩
  | e :: r, h => by
    obtain ⟨x, u, hx⟩ := h e List.mem_cons_self
    obtain ⟨ih1, ih2⟩ := putL_str (name := name) (hsh := hsh) (t := t) (v := v) (es := r) fun a ha => h a (List.mem_cons_of_mem _ ha)
    rw [putL]
    by_cases hn : x = name
    · subst hn
      rw [if_pos (by rw [hx]; simp [Value.isStr])]
      refine ⟨fun a ha => ?_, fun k => ?_⟩
      · rcases List.mem_cons.mp ha with rfl | ha
        · exact ⟨x, u, hx⟩
        · exact h a (List.mem_cons_of_mem _ ha)
      · by_cases hk : k = x
        · subst hk; simp [valL, hx, Value.isStr]
        · have : ¬ x = k := fun q => hk q.symm
          simp [valL, hx, Value.isStr, hk, this]
    · rw [if_neg (by rw [hx]; simp [Value.isStr, hn])]
      refine ⟨fun a ha => ?_, fun k => ?_⟩
      · rcases List.mem_cons.mp ha with rfl | ha
        · exact ⟨x, u, hx⟩
        · exact ih1 a ha
      · have := ih2 k
        unfold valL at this ⊢
        by_cases hk : k = x
        · subst hk
          simp [hx, Value.isStr, hn]
        · have : ¬ x = k := fun q => hk q.symm
          simp only [List.find?_cons, hx, Value.isStr]
          simp only [beq_eq_false_iff_ne.mpr this]
          assumption
theorem putL_len {name : Str} {hsh : Int} {key v : Value} : ∀ {es : List DictEntry}, (putL name hsh key v es).length ≤ es.length + 1
  | [] => Nat.le_refl _
  | e :: r => by
    rw [putL]; split
    · simp
    · have := putL_len (name := name) (hsh := hsh) (key := key) (v := v) (es := r)
      simp; omega
def isIns (fs : Str → Option Value) (c : Nat) (o : Obj) : Prop := ∃ es n, o = PySem.W.dictOf es n ∧ AllStr es ∧ (∀ k, valL k es = fs k) ∧ es.length ≤ c
theorem isIns_empty : isIns (fun _ => none) 0 PySem.W.emptyDict := ⟨[], 0, rfl, (fun _ h => nomatch h), fun _ => rfl, Nat.le_refl _⟩

theorem ObjAt.of_ins {g : Heap} {x C dx : Addr} {fs : Str → Option Value} {c : Nat} (hx : g.get? x = some (PySem.W.instObj C dx)) (hd : ∃ o, g.get? dx = some o ∧ isIns fs c o) : ObjAt g x C fs := by
  obtain ⟨o, ho, es, n, rfl, hs, hv, _⟩ := hd
  exact ⟨_, es, n, ⟨hx, rfl, rfl, ho⟩, fun k => by rw [getL_valL hs, hv]⟩

/-- a store into an attribute of the object whose dict is the ledger's first -/
theorem setattr0 {Q : Unit → Shared → Prop} {x C : Addr} {fs : Str → Option Value} {c : Nat} {name : Str} (W : Wd w mg mb g) (hx : s.heap.get? x = some (PySem.W.instObj C d)) (hc : c < 900)
    (hs : findIn (Kf w) (.ref C) "__setattr__" = some (some (.builtin "object.__setattr__"))) (hp : plainOver (Kf w) C = true) (ht : takerIn (Kf w) C name = some none) (hh : hasDictIn (Kf w) C = true)
    (X : Fx fr g0 h0 g L s.heap m ((d, isIns fs c) :: led))
    (hQ : ∀ h' tk, Fx fr g0 h0 g L h' m ((d, isIns (mset fs name v) (c + 1)) :: led) → Q () { s with heap := h', toks := tk }) : wpAny (Md w) A (setAttr (.ref x) name v) Q E s := by
  obtain ⟨o, ⟨es, n, rfl, hstr, hv, hl⟩, ho, F, N, hne⟩ := X.lib1
  have I : PySem.W.InstAt s.heap x (PySem.W.instObj C d) C (some (PySem.W.dictOf es n)) := ⟨hx, rfl, rfl, ho⟩
  have KI := W.K.keeps X.now
  refine set_plain KI I hs (osa_dict (s := { s with toks := s.toks + 1 }) F N KI I rfl hp ht hh (by rw [lookIn_dict, getL_valL hstr]; rfl) (fun _ h => nomatch h) hne (putName_dict ..) rfl (Nat.le_trans putL_len (by omega)) fun h' F' N' => ?_)
  refine hQ h' _ (X.back1 F' N' ⟨_, _, rfl, (putL_str hstr).1, fun k => ?_, Nat.le_trans putL_len (by omega)⟩)
  rw [(putL_str hstr).2, hv]; rfl
end
section
variable {w : World} {A : Around} {E : Value → Shared → Prop} {s : Shared} {mg mb : Str → Option Value} {sc : Scope}
variable {fr : List Addr} {g0 h0 g : Heap} {L : Addr} {h h' : Heap} {m m' : Str → Option Value} {led : List (Addr × (Obj → Prop))} {v : Value} {d : Addr}

/-- a call of a def as code, an argument's own mutable object in hand -/
theorem codeP1 {k : Nat} {name qual : Str} {params : Arguments} {body : List Stmt} {dV kV doc pm cdv ct oc : Value} {an od : Option Addr} {osl : Array (Option Value)} {f : Addr} {args : List Value} {kw : List (Str × Value)} {a : Addr} {P : Obj → Prop} {R : Result → Shared → Prop} (binds : List (Str × Value))
    (W : Wd w mg mb g) (hg : Hk g s.heap) (rm : Rm A (k + 1)) (ha : ∃ o, s.heap.get? a = some o ∧ P o) (hga : g.get? a = none)
    (ho : (Kf w).lookup f = some ⟨oc, od, .func (fnX name qual params body sc [] dV kV doc pm an cdv ct), osl⟩) (hcd : codeIn (Kf w) cdv qual = true)
    (hbind : BindsTo s (fnX name qual params body sc [] dV kV doc pm an cdv ct) ⟨args, kw⟩ binds) (hloc : (binds.all fun y => decide (sc.names.lookup y.1 = some .local)) = true)
    (hcell : (sc.names.all fun x => x.2 != .cell) = true) (hco : sc.isCoroutine = false) (hgen : sc.isGenerator = false) (hk : sc.kind = .function)
    (h : ∀ env L h₁ tk A', IsS0 s → EnvIs env sc L [] → Rm A' k → Fx [a] g s.heap g L h₁ (mOf binds) [(a, P)] →
      wpAny (Md w) A' (execs body env) (fun fl s' => R (.ok (.ret (fval fl))) s') (fun _ _ => False) { s with heap := h₁, toks := tk }) :
    codeAny (Md w) A (.call (.ref f) ⟨args, kw⟩) R s := by
  have hi := W.K.keeps hg
  refine codeAny_call_def (fd := fnX name qual params body sc [] dV kV doc pm an cdv ct) (body := body) (binds := binds) rm.room (hi _ _ ho) rfl (W.lim.keeps hg) (codeRec_of hi hcd) rfl hbind ?_ (locs hloc) (fun h₁ hns hk₁ => ?_) hco hgen hk
  · intro y hy q
    have := List.all_eq_true.mp hcell y hy
    rw [q] at this; cases this
  · rw [mOf_eq] at hns
    refine wpAny_mono (h _ _ h₁ _ _ trivial ⟨rfl, rfl, rfl, rfl, rfl, hk⟩ rm.deeper (Fx.enter1 hg ha hga hns hk₁)) (fun fl s' hq => ?_) (fun _ _ x => x.elim)
    cases fl <;> exact hq

theorem rm_make {k : Nat} {C : Addr} {rest : List Value} {kw : List (Str × Value)} (rm : Rm A (k + 1)) : Rm (A.under (.builtin "type.__call__" ⟨.ref C :: rest, kw⟩)) k :=
  ⟨rm.hh, by have := rm.hd; show A.depth + 1 + 4 * k < 900; omega, by have := rm.hu; show A.units + 1 + 40 * k < 9000; omega⟩

/-- an object of a class is made: its dict in the ledger, itself kept there too -/
theorem newIns {k : Nat} {C fI : Addr} {rest : List Value} {kw : List (Str × Value)} {Q : Value → Shared → Prop} (W : Wd w mg mb g) (rm : Rm A (k + 1)) (X : Fx fr g0 h0 g L s.heap m led) (hm : makesIn (Kf w) C = true)
    (hi : findIn (Kf w) (.ref C) "__init__" = some (some (.ref fI))) (hf : typeIn (Kf w) (.ref fI) = some (.type "function"))
    (hQ : ∀ x dx h' A', s.heap.get? x = none → s.heap.get? dx = none → Rm A' k → Fx fr g0 h0 g L h' m ((dx, isIns (fun _ => none) 0) :: (x, (· = PySem.W.instObj C dx)) :: led) →
      codeAny (Md w) A' (.call (.ref fI) ⟨.ref x :: rest, kw⟩) (fun r s' => ∃ v, r = .ok (.ret v) ∧ v = .none ∧ Q (.ref x) s') { s with heap := h' }) :
    wpAny (Md w) A (call (.ref C) rest kw) Q E s := by
  obtain ⟨F, N⟩ := X.lib
  refine wpAny_call (PySem.W.make_K F N (W.K.keeps X.now) hm hi hf fun x dx h' F' N' hlt hdx => ?_)
  have Nx := N' (x, PySem.W.instObj C dx) List.mem_cons_self
  have Nd := N' (dx, PySem.W.emptyDict) (List.mem_cons_of_mem _ List.mem_cons_self)
  have fd : s.heap.get? dx = none := by
    cases e : s.heap.get? dx with
    | none => rfl
    | some o => exact absurd (hlt _ (mem_allNews Nd.2.1 e)) (Nat.lt_irrefl _)
  have fx : s.heap.get? x = none := by
    cases e : s.heap.get? x with
    | none => rfl
    | some o => exact absurd (Nat.lt_trans hdx (hlt _ (mem_allNews Nx.2.1 e))) (Nat.lt_irrefl _)
  have Y := X.back (extra := [(x, PySem.W.instObj C dx), (dx, PySem.W.emptyDict)]) F' N'
  have Z := X.put (P := (· = PySem.W.instObj C dx)) Y fx Nx.1 rfl
  have Z' : Fx fr g0 h0 g L h' m ((dx, isIns (fun _ => none) 0) :: (x, (· = PySem.W.instObj C dx)) :: led) := by
    obtain ⟨h1, h2, h3, h4⟩ := X.fresh_ne fd
    refine ⟨Z.toOut, Z.ns, Z.off, Z.off0, fun p hp => ?_, ?_⟩
    · rcases List.mem_cons.mp hp with rfl | hp
      · exact ⟨⟨_, Nd.1, isIns_empty⟩, h1, h2, .inl h3⟩
      · exact Z.led_ p hp
    · rw [List.map_cons, List.nodup_cons]
      refine ⟨fun q => ?_, Z.nd⟩
      obtain ⟨p, hp, e⟩ := List.mem_map.mp q
      rcases List.mem_cons.mp hp with rfl | hp
      · exact Nat.ne_of_gt hdx e
      · exact h4 p hp e
  refine codeAny_mono (hQ x dx h' _ fx fd (rm_make rm) Z') fun r s' q => ?_
  obtain ⟨v, rfl, rfl, q⟩ := q
  exact ⟨rfl, q⟩
end
section
variable {w : World} {A : Around} {E : Value → Shared → Prop} {sb s₂ : Shared} {mg mb : Str → Option Value} {sc : Scope} {env : Env} {cl : List (Str × Addr)}
variable {frT : List Addr} {g : Heap} {L : Addr} {m : Str → Option Value} {led : List (Addr × (Obj → Prop))} {v : Value} {x : Str}

theorem none_of_hk {g h : Heap} {a : Addr} (hk : Hk g h) (ha : h.get? a = none) : g.get? a = none := by
  cases e : g.get? a with
  | none => rfl
  | some o => rw [hk _ _ e] at ha; cases ha

theorem Fx.start {hs h₁ : Heap} {C : Addr} (hg : Hk g hs) (hk : Hk hs h₁) (hn : h₁.Ns C m) (hC : hs.get? C = none)
    (hled : ∀ p ∈ led, (∃ o, h₁.get? p.1 = some o ∧ p.2 o) ∧ p.1 ≠ C ∧ g.get? p.1 = none ∧ (hs.get? p.1 = none ∨ p.1 ∈ frT)) (hnd : (led.map (·.1)).Nodup) : Fx frT g hs g C h₁ m led where
  old := Hk.refl _
  now := hg.trans hk
  new := fun b o e => .inl ⟨o, e⟩
  keep := fun b o _ e => hk _ _ e
  live := fun b o e => ⟨o, hk _ _ e⟩
  ns := hn
  off := none_of_hk hg hC
  off0 := hC
  led_ := hled
  nd := hnd

/-- the scope of a comprehension as it runs: what it takes out of the frame around is a cell -/
def relabelS (scope sc : Scope) : Scope :=
  { scope with names := scope.names.map fun (n, k) => if (k == .free && sc.kind == .function && sc.names.lookup n == some .cell) then (n, .cell) else (n, k) }
theorem relabel_eq {scope : Scope} (he : EnvIs env sc L cl) : relabel scope env = relabelS scope sc := by
  unfold relabel relabelS Env.kindOf
  rw [he.scope]

def testsOf (ifs : List Expr) (cenv : Env) : Sem Bool := forIn ifs true fun c r => if r = true then do let ok ← isTrue c cenv (eval c cenv); pure (ForInStep.yield ok) else pure (ForInStep.yield r)

/-- how the element's evaluation ends -/
def EltEnd (frT : List Addr) (g : Heap) (sb : Shared) (C D I : Addr) (it : Obj → Prop) (ledT : List (Addr × (Obj → Prop))) (gb : Heap) (ys : List Value) (J : Heap → List Value → Prop) (y : Value) (s' : Shared) : Prop :=
  ∃ g' h' tk' mc', s' = { sb with heap := h', toks := tk' } ∧ Hk gb g' ∧ Fx frT g sb.heap g' C h' mc' ((D, isPl ys) :: (I, it) :: ledT) ∧ J g' (ys ++ [y])
theorem EltEnd.mk {C D I : Addr} {it : Obj → Prop} {ledT : List (Addr × (Obj → Prop))} {gb g' : Heap} {ys : List Value} {J : Heap → List Value → Prop} {y : Value} {s' : Shared} {h' : Heap} {tk' : Nat} {mc' : Str → Option Value}
    (X : Fx frT g sb.heap g' C h' mc' ((D, isPl ys) :: (I, it) :: ledT)) (hk : Hk gb g') (j : J g' (ys ++ [y])) (e : s' = { sb with heap := h', toks := tk' } := by with_unfolding_all rfl) : EltEnd frT g sb C D I it ledT gb ys J y s' :=
  ⟨g', h', tk', mc', e, hk, X, j⟩
/-- a turn that the tests pass by -/
def EltSkip (frT : List Addr) (g : Heap) (sb : Shared) (C D I : Addr) (it : Obj → Prop) (ledT : List (Addr × (Obj → Prop))) (gb : Heap) (ys : List Value) (J : Heap → List Value → Prop) (s' : Shared) : Prop :=
  ∃ g' h' tk' mc', s' = { sb with heap := h', toks := tk' } ∧ Hk gb g' ∧ Fx frT g sb.heap g' C h' mc' ((D, isPl ys) :: (I, it) :: ledT) ∧ J g' ys

theorem comp_core {elt iter : Expr} {px pos : Pos} {ifs : List Expr} {scope : Scope} {cl' : List (Str × Addr)} {I : Addr} {fp : List Addr} {n : Nat} {P : Nat → Value → Prop} {St : Nat → Heap → Prop} {RR : Value → Addr → Result → Shared → Prop}
    (W : Walks pr w A I fp [I] n P St) (hI : ∀ i h, St i h → ∃ o, h.get? I = some o) (he : EnvIs env sc L cl)
    (J : Nat → Heap → List Value → Prop) (ledT : Nat → List (Addr × (Obj → Prop))) (hadr : ∀ i, (ledT i).map (·.1) = frT) (hg : Hk g sb.heap)
    (hk2 : Hk sb.heap s₂.heap) (hs2 : ∃ h tk, s₂ = { sb with heap := h, toks := tk }) (hIn : sb.heap.get? I = none) (hst : St 0 s₂.heap) (hfp : ∀ b ∈ fp, b = I ∨ ∃ o, g.get? b = some o)
    (hT : ∀ p ∈ ledT 0, (∃ o, sb.heap.get? p.1 = some o ∧ p.2 o) ∧ g.get? p.1 = none) (hnd : frT.Nodup)
    (hj : J 0 g []) (hn : n ≤ 1000) (hJl : ∀ i g ys, J i g ys → ys.length ≤ 1000)
    (hcell : (scope.names.all fun y => y.2 != .cell) = true) (hkind : scope.kind = .function) (hx : (relabelS scope sc).names.lookup x = some .local)
    (turn : ∀ i v g' ys C D h tk mc it cenv E', EnvIs cenv (relabelS scope sc) C cl' → i < n → P i v → Hk g g' → J i g' ys → Fx frT g sb.heap g' C h (mset mc x v) ((D, isPl ys) :: (I, it) :: ledT i) →
      wpAny (Md w) A (testsOf ifs cenv) (fun ok s₃ => if ok = true then wpAny (Md w) A (eval elt cenv) (EltEnd frT g sb C D I it (ledT (i + 1)) g' ys (J (i + 1))) E' s₃ else EltSkip frT g sb C D I it (ledT (i + 1)) g' ys (J (i + 1)) s₃) E' { sb with heap := h, toks := tk })
    (hfin : ∀ D g' ys C h tk mc, Hk g g' → J n g' ys → sb.heap.get? D = none → sb.heap.get? C = none → Fx frT g sb.heap g' C h mc ((D, isPl ys) :: ledT n) → RR (.ref D) C (.ok .next) { sb with heap := h, toks := tk }) :
    wpAny (Md w) A (newList []) (fun acc s₃ => wpAny (Md w) A (newFunctionEnv scope env.globals cl' [] env.qual none .none (some env)) (fun cenv s₄ =>
      codeAny (Md w) A (.compStart (.ListComp elt [⟨.Name x px, iter, ifs, 0⟩] scope pos) 0 (.ref I) acc { cenv with scope := relabel scope env }) (RR acc cenv.locals) s₄) E s₃) E s₂ := by
  obtain ⟨hh2, tk2, rfl⟩ := hs2
  dsimp only at hk2 hst
  refine wpAny_newObj_type (wpAny_newFunctionEnv (fun y hy q => ?_) (by intro y hy; simp at hy) (fun h₁ hns₁ hsb₁ => ?_) hkind)
  · have := List.all_eq_true.mp hcell y hy
    rw [q] at this; cases this
  dsimp only at hns₁ hsb₁ ⊢
  generalize hH2 : hh2.push { cls := .type "list", dict := none, data := .seq ([] : List Value).toArray } = H2 at hns₁ hsb₁ ⊢
  have hC : H2.objs.size = hh2.objs.size + 1 := by rw [← hH2, Heap.size_push]
  have hkH : Hk hh2 H2 := by rw [← hH2]; exact Hk.push _ _
  have hk₁ : Hk H2 h₁ := fun b o e => hsb₁.extBut b o (Nat.ne_of_lt (Heap.lt_size e)) (Heap.get?_push_of_some _ e)
  have hD : hh2.get? hh2.objs.size = none := size_none _
  have hCn : hh2.get? H2.objs.size = none := none_of_hk hkH (size_none _)
  obtain ⟨oI, hoI⟩ := hI _ _ hst
  have hIlt := Heap.lt_size hoI
  have hDI : hh2.objs.size ≠ I := Nat.ne_of_gt hIlt
  have hCI : H2.objs.size ≠ I := by rw [hC]; exact Nat.ne_of_gt (Nat.lt_succ_of_lt hIlt)
  have hCD : hh2.objs.size ≠ H2.objs.size := by rw [hC]; exact Nat.ne_of_lt (Nat.lt_succ_self _)
  have hDo : h₁.get? hh2.objs.size = some { cls := .type "list", dict := none, data := .seq ([] : List Value).toArray } := hk₁ _ _ (by rw [← hH2]; exact Heap.get?_push_size _ rfl)
  have hTlt : ∀ p ∈ ledT 0, p.1 ≠ hh2.objs.size ∧ p.1 ≠ H2.objs.size ∧ p.1 ≠ I := fun p hp => by
    obtain ⟨⟨o, ho, _⟩, _⟩ := hT p hp
    have := Heap.lt_size (hk2 _ _ ho)
    refine ⟨Nat.ne_of_lt this, by rw [hC]; exact Nat.ne_of_lt (Nat.lt_succ_of_lt this), fun q => ?_⟩
    rw [q, hIn] at ho; cases ho
  have X : Fx frT g sb.heap g H2.objs.size h₁ _ ((hh2.objs.size, isPl []) :: (I, (· = oI)) :: ledT 0) := Fx.start hg ((hk2.trans hkH).trans hk₁) hns₁ (none_of_hk hk2 hCn) (fun p hp => by
      rcases List.mem_cons.mp hp with rfl | hp
      · exact ⟨⟨_, hDo, 0, rfl⟩, hCD, none_of_hk (hg.trans hk2) hD, .inl (none_of_hk hk2 hD)⟩
      · rcases List.mem_cons.mp hp with rfl | hp
        · exact ⟨⟨oI, hk₁ _ _ (hkH _ _ hoI), rfl⟩, Ne.symm hCI, none_of_hk hg hIn, .inl hIn⟩
        · obtain ⟨⟨o, ho, hP⟩, hgn⟩ := hT p hp
          exact ⟨⟨o, hk₁ _ _ (hkH _ _ (hk2 _ _ ho)), hP⟩, (hTlt p hp).2.1, hgn, .inr (by rw [← hadr 0]; exact List.mem_map_of_mem hp)⟩) (by
      rw [List.map_cons, List.map_cons, List.nodup_cons, List.nodup_cons, hadr]
      refine ⟨fun q => ?_, fun q => ?_, hnd⟩
      · rcases List.mem_cons.mp q with q | q
        · exact hDI q
        · rw [← hadr 0] at q
          obtain ⟨p, hp, e⟩ := List.mem_map.mp q
          exact (hTlt p hp).1 e
      · rw [← hadr 0] at q
        obtain ⟨p, hp, e⟩ := List.mem_map.mp q
        exact (hTlt p hp).2.2 e)
  have hst₁ : St 0 h₁ := W.frame _ _ _ hst fun b _ o e => hk₁ _ _ (hkH _ _ e)
  rw [relabel_eq he]
  have hfrI : I ∉ frT := fun q => by
    rw [← hadr 0] at q
    obtain ⟨p, hp, e⟩ := List.mem_map.mp q
    exact (hTlt p hp).2.2 e
  have loop : ∀ s₃ : Shared, s₃ = { sb with heap := h₁, toks := tk2 + ([] : List (Str × Value)).length } → ∀ cenv : Env, EnvIs cenv (relabelS scope sc) H2.objs.size cl' →
      codeAny (Md w) A (.compLoop (.ListComp elt [⟨.Name x px, iter, ifs, 0⟩] scope pos) 0 (.ref I) (.ref hh2.objs.size) cenv) (RR (.ref hh2.objs.size) H2.objs.size) s₃ := by
    rintro s₃ rfl cenv hce
    refine codeAny_compLoop_tests (fun k s' => ∃ h tk g' mc ys i oI, s' = { sb with heap := h, toks := tk } ∧ i ≤ n ∧ k = n + 1 - i ∧ St i h ∧ Hk g g' ∧ Fx frT g sb.heap g' H2.objs.size h mc ((hh2.objs.size, isPl ys) :: (I, (· = oI)) :: ledT i) ∧ J i g' ys) ?_ (n + 1)
      ⟨h₁, _, g, _, [], 0, oI, rfl, Nat.zero_le _, rfl, hst₁, Hk.refl _, X, hj⟩
    rintro k s' ⟨h, tk, g', mc, ys, i, oI', rfl, hi, rfl, hst', hk', X', hJ⟩
    by_cases hlt : i < n
    · refine W.item i _ _ _ hlt hst' fun v h₃ tk₃ hP hst₃ hk₃ => ?_
      obtain ⟨o₃, ho₃⟩ := hI _ _ hst₃
      have X₃ : Fx frT g sb.heap g' H2.objs.size h₃ mc ((hh2.objs.size, isPl ys) :: (I, (· = o₃)) :: ledT i) := (X'.swap.turn (P' := (· = o₃)) (fun b o hb e => hk₃ b o (by simpa using hb) e) ⟨o₃, ho₃, rfl⟩).swap
      refine wpAny_assign_Name (stv X₃ hce hx fun h₄ X₄ => ?_)
      refine wpAny_mono (turn i v g' ys _ _ h₄ _ mc (· = o₃) cenv _ hce hlt hP hk' hJ X₄) (fun ok s₅ q => ?_) fun _ _ e => e
      have next : ∀ {g₆ h₆ mc₆ ys₆}, Hk g' g₆ → Fx frT g sb.heap g₆ H2.objs.size h₆ mc₆ ((hh2.objs.size, isPl ys₆) :: (I, (· = o₃)) :: ledT (i + 1)) → St (i + 1) h₆ := by
        intro g₆ h₆ mc₆ ys₆ hk₆ X₆
        refine W.frame _ _ _ hst₃ fun b hb o e => ?_
        rcases hfp b hb with rfl | ⟨o', ho'⟩
        · obtain ⟨o₂, e₂, rfl⟩ := X₆.at (a := b) (List.mem_cons_of_mem _ List.mem_cons_self)
          rw [ho₃] at e; cases e; exact e₂
        · have e' := X₃.now _ _ (hk' _ _ ho')
          rw [e] at e'; cases e'
          exact X₆.now _ _ (hk₆ _ _ (hk' _ _ ho'))
      cases ok with
      | false =>
        simp only [Bool.false_eq_true, if_false] at q ⊢
        obtain ⟨g₆, h₆, tk₆, mc₆, rfl, hk₆, X₆, hJ₆⟩ := q
        exact ⟨n + 1 - (i + 1), by omega, h₆, tk₆, g₆, mc₆, ys, i + 1, o₃, rfl, hlt, rfl, next hk₆ X₆, hk'.trans hk₆, X₆, hJ₆⟩
      | true =>
        simp only [if_true] at q ⊢
        refine wpAny_mono q (fun y s₆ q => ?_) fun _ _ e => e
        obtain ⟨g₆, h₆, tk₆, mc₆, rfl, hk₆, X₆, hJ₆⟩ := q
        have hl := hJl _ _ _ hJ₆
        refine append0 (s := { sb with heap := h₆, toks := tk₆ }) X₆ (by rw [sizeLine_eq]; simp at hl; omega) fun h₇ X₇ => ?_
        have hst₇ := next hk₆ X₇
        exact ⟨n + 1 - (i + 1), by omega, h₇, tk₆, g₆, mc₆, ys ++ [y], i + 1, o₃, rfl, hlt, rfl, hst₇, hk'.trans hk₆, X₇, hJ₆⟩
    · have hin : i = n := by omega
      subst hin
      refine W.done _ _ _ hst' fun h₃ tk₃ hk₃ => ?_
      exact hfin _ g' ys _ h₃ tk₃ mc hk' hJ (none_of_hk hk2 hD) (none_of_hk hk2 hCn) (X'.swap.lose hfrI fun b o hb e => hk₃ b o (by simpa using hb) e)
  have henv : EnvIs { (newEnv scope H2.objs.size env.globals cl' env.qual none .none (some env) builtinsNs) with scope := relabelS scope sc } (relabelS scope sc) H2.objs.size cl' :=
    ⟨rfl, rfl, he.globals, he.builtins, rfl, hkind⟩
  exact codeAny_compStart_list (loop _ rfl _ henv) (W.self 0 _ _ _ hst₁ (loop _ rfl _ henv))
end
section
variable {w : World} {A : Around} {E : Value → Shared → Prop} {s : Shared} {mg mb : Str → Option Value} {sc : Scope} {env : Env} {cl : List (Str × Addr)}
variable {fr frT : List Addr} {g0 h0 g : Heap} {L : Addr} {m : Str → Option Value} {led : List (Addr × (Obj → Prop))} {v : Value} {x : Str}

theorem Fx.outC {hs g' h h' : Heap} {C : Addr} (X : Fx frT g hs g' C h m led) (hb : Heap.SameBut C h h') : Out frT g hs g' h' where
  old := X.old
  now := fun b o e => (hb.2 b fun q => by rw [q, X.off] at e; cases e).trans (X.now b o e)
  new := X.new
  keep := fun b o hf e => (hb.2 b fun q => by rw [q, X.off0] at e; cases e).trans (X.keep b o hf e)
  live := fun b o e => by
    obtain ⟨o', ho'⟩ := X.live b o e
    exact ⟨o', (hb.2 b fun q => by rw [q, X.off0] at e; cases e).trans ho'⟩

theorem ListComp_ {elt iter : Expr} {tgt : Expr} {ifs : List Expr} {scope : Scope} {pos : Pos} {cl' : List (Str × Addr)} {Q : Value → Shared → Prop}
    (hclos : closureFor scope env = pure cl') (hkind : scope.kind = .function) (hnames : (scope.names.all fun y => y.2 != .local || scope.names.lookup y.1 == some .local) = true)
    (h : wpAny (Md w) A (eval iter env) (fun xv s₁ => wpAny (Md w) A (pyIter xv) (fun it s₂ => wpAny (Md w) A (newList []) (fun acc s₃ =>
      wpAny (Md w) A (newFunctionEnv scope env.globals cl' [] env.qual none .none (some env)) (fun cenv s₄ =>
        codeAny (Md w) A (.compStart (.ListComp elt [⟨tgt, iter, ifs, 0⟩] scope pos) 0 it acc { cenv with scope := relabel scope env }) (compPost (Md w) A E none Q acc cenv.locals) s₄) E s₃) E s₂) E s₁) E s)
    (hs : ∀ x, foldedSetIterable iter env x = pure x) :
    wpAny (Md w) A (eval (.ListComp elt [⟨tgt, iter, ifs, 0⟩] scope pos) env) Q E s := by
  rw [eval_ListComp]
  refine wpAny_comprehension_free (use := none) rfl hs hclos hkind (fun y hy hl => ?_) h
  have := List.all_eq_true.mp hnames y hy
  rw [hl] at this
  simpa using this

theorem testsOf_nil {cenv : Env} {Q : Bool → Shared → Prop} (h : Q true s) : wpAny (Md w) A (testsOf [] cenv) Q E s := wpAny_pure h

/-- [elt for x in a list that stands still], nothing turned -/
theorem comp_list {k : Nat} {elt iter : Expr} {px pos : Pos} {ifs : List Expr} {scope : Scope} {cl' : List (Str × Addr)} {l : Addr} {vs : List Value} {Q : Value → Shared → Prop}
    (rm : Rm A k) (he : EnvIs env sc L cl) (X : Fx fr g0 h0 g L s.heap m led) (hl : g.IsList l vs.toArray) (J : Nat → Heap → List Value → Prop) (hj : J 0 g []) (hn : vs.length ≤ 1000) (hJl : ∀ i g ys, J i g ys → ys.length ≤ 1000)
    (hcell : (scope.names.all fun y => y.2 != .cell) = true) (hkind : scope.kind = .function) (hx : (relabelS scope sc).names.lookup x = some .local)
    (turn : ∀ i v g' ys C D I h tk mc it cenv E', EnvIs cenv (relabelS scope sc) C cl' → vs[i]? = some v → Hk g g' → J i g' ys → Fx [] g s.heap g' C h (mset mc x v) [(D, isPl ys), (I, it)] →
      wpAny (Md w) A (testsOf ifs cenv) (fun ok s₃ => if ok = true then wpAny (Md w) A (eval elt cenv) (EltEnd [] g s C D I it [] g' ys (J (i + 1))) E' s₃ else EltSkip [] g s C D I it [] g' ys (J (i + 1)) s₃) E' { s with heap := h, toks := tk })
    (hQ : ∀ D g1 g2 ys h' tk, Hk g g1 → Hk g1 g2 → s.heap.get? D = none → J vs.length g1 ys → g2.PlainList D ys.toArray → Fx fr g0 h0 g2 L h' m led → Q (.ref D) { s with heap := h', toks := tk }) :
    wpAny (Md w) A (pyIter (.ref l)) (fun it s₂ => wpAny (Md w) A (newList []) (fun acc s₃ => wpAny (Md w) A (newFunctionEnv scope env.globals cl' [] env.qual none .none (some env)) (fun cenv s₄ =>
      codeAny (Md w) A (.compStart (.ListComp elt [⟨.Name x px, iter, ifs, 0⟩] scope pos) 0 it acc { cenv with scope := relabel scope env }) (compPost (Md w) A E none Q acc cenv.locals) s₄) E s₃) E s₂) E s := by
  obtain ⟨o, ho, hc, hd⟩ := hl
  refine wpAny_pyIter_list ⟨o, X.now _ _ ho, hc, hd⟩ ?_
  have hne : l ≠ s.heap.objs.size := Nat.ne_of_lt (Heap.lt_size (X.now _ _ ho))
  have hk : Hk s.heap (s.heap.push { cls := .type "list_iterator", data := .fields #[.ref l, .int 0 0] }) := Hk.push _ _
  refine comp_core (sb := s) (n := vs.length) (P := fun i v => vs[i]? = some v) (St := fun i h => h.IsListIter s.heap.objs.size l i ∧ h.IsList l vs.toArray) (fp := [s.heap.objs.size, l]) (RR := fun acc C => compPost (Md w) A E none Q acc C)
    (by have W := Walks.list (prog := pr) (w := w) rm.hh s.heap.objs.size l hne vs.toArray; simpa using W) ?_ he J (fun _ => []) (fun _ => rfl) X.now hk ⟨_, _, rfl⟩ (size_none _)
    ⟨⟨_, Heap.get?_push_size _ rfl, rfl, rfl⟩, ⟨o, hk _ _ (X.now _ _ ho), hc, hd⟩⟩ ?_ (fun p hp => nomatch hp) .nil hj hn hJl hcell hkind hx
    (fun i v g' ys C D h tk mc it cenv E' hce _ hP hk' hJ X' => turn i v g' ys C D _ h tk mc it cenv E' hce hP hk' hJ X') ?_
  · rintro i h ⟨⟨o, ho, _⟩, _⟩; exact ⟨o, ho⟩
  · intro b hb
    simp only [List.mem_cons, List.not_mem_nil, or_false] at hb
    rcases hb with rfl | rfl
    · exact .inl rfl
    · exact .inr ⟨o, ho⟩
  · intro D g' ys C h tk mc hk' hJ hD hC Y
    obtain ⟨g₂, hk₂, ⟨oD, hoD, nD, rfl⟩, Y⟩ := Y.freeze (by simp)
    refine ⟨_, Y.ns, fun h' hb => ?_⟩
    exact hQ D g' g₂ ys h' tk hk' hk₂ hD hJ ⟨nD, hoD⟩ (X.out (Y.outC hb))

/-- [elt for x in range(n)], nothing turned -/
theorem comp_range {k : Nat} {elt iter : Expr} {px pos : Pos} {ifs : List Expr} {scope : Scope} {cl' : List (Str × Addr)} {r : Addr} {n : Nat} {t u v : Tok} {Q : Value → Shared → Prop}
    (rm : Rm A k) (he : EnvIs env sc L cl) (X : Fx fr g0 h0 g L s.heap m led) (hr : IsRange g r 0 n 1 t u v) (J : Nat → Heap → List Value → Prop) (hj : J 0 g []) (hn : n ≤ 1000) (hJl : ∀ i g ys, J i g ys → ys.length ≤ 1000)
    (hcell : (scope.names.all fun y => y.2 != .cell) = true) (hkind : scope.kind = .function) (hx : (relabelS scope sc).names.lookup x = some .local)
    (turn : ∀ i g' ys C D I h tk mc it cenv E' t, EnvIs cenv (relabelS scope sc) C cl' → i < n → Hk g g' → J i g' ys → Fx [] g s.heap g' C h (mset mc x (.int (i : Nat) t)) [(D, isPl ys), (I, it)] →
      wpAny (Md w) A (testsOf ifs cenv) (fun ok s₃ => if ok = true then wpAny (Md w) A (eval elt cenv) (EltEnd [] g s C D I it [] g' ys (J (i + 1))) E' s₃ else EltSkip [] g s C D I it [] g' ys (J (i + 1)) s₃) E' { s with heap := h, toks := tk })
    (hQ : ∀ D g1 g2 ys h' tk, Hk g g1 → Hk g1 g2 → s.heap.get? D = none → J n g1 ys → g2.PlainList D ys.toArray → Fx fr g0 h0 g2 L h' m led → Q (.ref D) { s with heap := h', toks := tk }) :
    wpAny (Md w) A (pyIter (.ref r)) (fun it s₂ => wpAny (Md w) A (newList []) (fun acc s₃ => wpAny (Md w) A (newFunctionEnv scope env.globals cl' [] env.qual none .none (some env)) (fun cenv s₄ =>
      codeAny (Md w) A (.compStart (.ListComp elt [⟨.Name x px, iter, ifs, 0⟩] scope pos) 0 it acc { cenv with scope := relabel scope env }) (compPost (Md w) A E none Q acc cenv.locals) s₄) E s₃) E s₂) E s := by
  have hsz : Builtin.Range.rangeSize 0 n 1 = n := by
    unfold Builtin.Range.rangeSize
    rw [if_pos (by decide)]
    split <;> omega
  refine wpAny_pyIter_range (X.now _ _ hr) (by unfold Builtin.Range.small; rw [hsz]; simp [Builtin.Range.rangeFitsLong]; omega) ?_
  rw [hsz]
  have hk : Hk s.heap (s.heap.push { cls := .type "range_iterator", data := .fields #[rawInt 0, rawInt n, rawInt 1] }) := Hk.push _ _
  refine comp_core (sb := s) (fp := [s.heap.objs.size]) (RR := fun acc C => compPost (Md w) A E none Q acc C)
    (Walks.range rm.hh s.heap.objs.size 0 1 n) ?_ he J (fun _ => []) (fun _ => rfl) X.now hk ⟨_, _, rfl⟩ (size_none _)
    (by simpa using Heap.get?_push_size _ rfl) ?_ (fun p hp => nomatch hp) .nil hj hn hJl hcell hkind hx
    (fun i v g' ys C D h tk mc it cenv E' hce hi hP hk' hJ X' => ?_) ?_
  · intro i h ho; exact ⟨_, ho⟩
  · intro b hb
    exact .inl (by simpa using hb)
  · obtain ⟨t, rfl⟩ := hP
    simp only [Int.zero_add, Int.mul_one] at X'
    exact turn i g' ys C D _ h tk mc it cenv E' t hce hi hk' hJ X'
  · intro D g' ys C h tk mc hk' hJ hD hC Y
    obtain ⟨g₂, hk₂, ⟨oD, hoD, nD, rfl⟩, Y⟩ := Y.freeze (by simp)
    refine ⟨_, Y.ns, fun h' hb => ?_⟩
    exact hQ D g' g₂ ys h' tk hk' hk₂ hD hJ ⟨nD, hoD⟩ (X.out (Y.outC hb))
end
section
variable {w : World} {A : Around} {E : Value → Shared → Prop} {s : Shared} {mg mb : Str → Option Value}
variable {fr : List Addr} {g0 h0 g g' : Heap} {L : Addr} {h h' : Heap} {m : Str → Option Value} {led : List (Addr × (Obj → Prop))} {v : Value}

/-- less stands still -/
theorem Fx.weaken (X : Fx fr g0 h0 g' L h m led) (hk : Hk g g') (h0g : Hk g0 g) : Fx fr g0 h0 g L h m led where
  old := h0g
  now := hk.trans X.now
  new := fun b o e => X.new b o (hk _ _ e)
  keep := X.keep
  live := X.live
  ns := X.ns
  off := none_of_hk hk X.off
  off0 := X.off0
  led_ := fun p hp => let ⟨a, b, c, d⟩ := X.led_ p hp; ⟨a, b, none_of_hk hk c, d⟩
  nd := X.nd
theorem led_uniq {a : Addr} {P : Obj → Prop} {p : Addr × (Obj → Prop)} : ∀ {led : List (Addr × (Obj → Prop))}, (led.map (·.1)).Nodup → p ∈ led → (a, P) ∈ led → p.1 = a → p = (a, P)
  | c :: l, nd, hp, hm, q => by
    rw [List.map_cons, List.nodup_cons] at nd
    rcases List.mem_cons.mp hp with e | hp'
    · rcases List.mem_cons.mp hm with e' | hm'
      · rw [e, e']
      · exact absurd (show c.1 ∈ l.map (·.1) from List.mem_map.mpr ⟨_, hm', by rw [← e]; exact q.symm⟩) nd.1
    · rcases List.mem_cons.mp hm with e' | hm'
      · exact absurd (show c.1 ∈ l.map (·.1) from List.mem_map.mpr ⟨_, hp', by rw [← e']; exact q⟩) nd.1
      · exact led_uniq nd.2 hp' hm' q
/-- one of the ledger's objects turned, what is said of it holds still -/
theorem Fx.touch {a : Addr} {P : Obj → Prop} (X : Fx fr g0 h0 g L h m led) (hm : (a, P) ∈ led) (hs : Heap.SameBut a h h') (ho : ∃ o, h'.get? a = some o ∧ P o) : Fx fr g0 h0 g L h' m led := by
  obtain ⟨⟨oa, hoa, _⟩, hL, hg, h0'⟩ := X.led_ (a, P) hm
  refine ⟨⟨X.old, fun b o e => (hs.2 b fun q => by rw [q, hg] at e; cases e).trans (X.now b o e), X.new, fun b o hb e => ?_, fun b o e => ?_⟩, X.ns.sameBut hs (Ne.symm hL), X.off, X.off0, fun p hp => ?_, X.nd⟩
  · refine (hs.2 b fun q => ?_).trans (X.keep b o hb e)
    rcases h0' with h | h
    · rw [q, h] at e; cases e
    · exact hb (q ▸ h)
  · obtain ⟨o2, ho2⟩ := X.live b o e
    by_cases q : b = a
    · obtain ⟨o3, h3, _⟩ := ho; exact ⟨o3, q ▸ h3⟩
    · exact ⟨o2, (hs.2 b q).trans ho2⟩
  · obtain ⟨⟨o, e, hP⟩, r⟩ := X.led_ p hp
    refine ⟨?_, r⟩
    by_cases q : p.1 = a
    · have : p = (a, P) := by
        exact led_uniq X.nd hp hm q
      subst this
      exact ho
    · exact ⟨o, (hs.2 _ q).trans e, hP⟩
/-- more to the ledger: objects that stand and are new -/
theorem Fx.more {led' : List (Addr × (Obj → Prop))} (X : Fx fr g0 h0 g L h m led) (hl : ∀ p ∈ led', (∃ o, h.get? p.1 = some o ∧ p.2 o) ∧ p.1 ≠ L ∧ g.get? p.1 = none ∧ h0.get? p.1 = none ∧ ∀ q ∈ led, q.1 ≠ p.1) (hn : (led'.map (·.1)).Nodup) :
    Fx fr g0 h0 g L h m (led ++ led') where
  toOut := X.toOut
  ns := X.ns
  off := X.off
  off0 := X.off0
  led_ := fun p hp => by
    rcases List.mem_append.mp hp with hp | hp
    · exact X.led_ p hp
    · obtain ⟨a, b, c, d, _⟩ := hl p hp; exact ⟨a, b, c, .inl d⟩
  nd := by
    rw [List.map_append, List.nodup_append]
    refine ⟨X.nd, hn, fun a ha b hb q => ?_⟩
    obtain ⟨p, hp, rfl⟩ := List.mem_map.mp ha
    obtain ⟨p', hp', rfl⟩ := List.mem_map.mp hb
    exact (hl p' hp').2.2.2.2 p hp q
theorem Fx.imps {led' : List (Addr × (Obj → Prop))} (X : Fx fr g0 h0 g L h m led) (ha : led'.map (·.1) = led.map (·.1)) (hi : ∀ p ∈ led', ∃ P, (p.1, P) ∈ led ∧ ∀ o, P o → p.2 o) : Fx fr g0 h0 g L h m led' :=
  ⟨X.toOut, X.ns, X.off, X.off0, fun p hp => by
    obtain ⟨P, hm, hP⟩ := hi p hp
    obtain ⟨⟨o, e, hp⟩, r⟩ := X.led_ _ hm
    exact ⟨⟨o, e, hP o hp⟩, r⟩, by rw [ha]; exact X.nd⟩

/-- a list of at most n items -/
def isPlN (n : Nat) (o : Obj) : Prop := ∃ vs, isPl vs o ∧ vs.length ≤ n

theorem append_in {Q : Value → Shared → Prop} {l : Addr} {n : Nat} (X : Fx fr g0 h0 g L s.heap m led) (hm : (l, isPlN (n + 1)) ∈ led) (hl : ∃ o, s.heap.get? l = some o ∧ isPlN n o) (hsz : n ≤ sizeLine)
    (hQ : ∀ h', Fx fr g0 h0 g L h' m led → Q .none { s with heap := h' }) : wpAny (Md w) A (call (.builtin "list.append") ([.ref l] ++ [v])) Q E s := by
  obtain ⟨o, ho, vs, ⟨k, rfl⟩, hv⟩ := hl
  refine wpAny_list_append_plain (items := vs.toArray) ⟨k, ho⟩ (fun h' hp hs => hQ h' (X.touch hm hs ?_)) (by simp; omega)
  obtain ⟨k', e⟩ := hp
  exact ⟨_, e, vs ++ [v], ⟨k', by simp⟩, by simp; omega⟩

theorem item_l {Q : Value → Shared → Prop} {value slice : Expr} {l : Addr} {vs : List Value} {k : Int} {u : Tok} (h0 : 0 ≤ k) (hfit : k < 2 ^ 63) (hx : vs[k.toNat]? = some v) (hl : s.heap.IsList l vs.toArray)
    (hs : subscripted slice false (.ref l) (.int k u) = operate [.ref l, .int k u] (getItem (.ref l) (.int k u))) (h : Q v s) : wpAny (Md w) A (subscriptTail value slice (.ref l) (.int k u)) Q E s :=
  tail_any hl.typeIs slot_list_getitem.lookup (wpAny_getItem_list hl h0 hfit (by simpa using hx) h) hs
theorem size_rep (items : Array Value) : ∀ (n : Nat) (a : Array Value), (List.foldl (fun x1 x2 => x1 ++ x2) a (List.replicate n items)).size = a.size + n * items.size
  | 0, a => by simp
  | n + 1, a => by
    rw [List.replicate_succ, List.foldl_cons, size_rep items n, Array.size_append, Nat.add_mul]
    omega
/-- a list times an int -/
theorem mul_l {Q : Value → Shared → Prop} {b : Addr} {vs : List Value} {x : Int} {u : Tok} (X : Fx fr g0 h0 g L s.heap m led) (hb : s.heap.PlainList b vs.toArray) (hx : 0 ≤ x) (hx2 : x ≤ 100000) (hv : vs.length ≤ 100)
    (hQ : ∀ a h', s.heap.get? a = none → Fx fr g0 h0 g L h' m ((a, isPlN (vs.length * x.toNat)) :: led) → Q (.ref a) { s with heap := h' }) : wpAny (Md w) A (binaryOp .Mult (.ref b) (.int x u)) Q E s := by
  obtain ⟨k, hb⟩ := hb
  obtain ⟨F, N⟩ := X.lib
  have hm : vs.length * x.toNat ≤ 100 * 100000 := Nat.mul_le_mul hv (by omega)
  refine mul_list F N hb (by omega) (by omega) (by simp; omega) fun h' F' N' => ?_
  have Y := X.back (extra := [_]) F' N'
  have hs := size_none s.heap
  refine hQ _ h' hs (X.put (P := isPlN (vs.length * x.toNat)) Y hs (N' _ List.mem_cons_self).1 ?_)
  refine ⟨(List.foldl (fun x1 x2 => x1 ++ x2) #[] (List.replicate (if vs.toArray.isEmpty = true then 0 else x.toNat) vs.toArray)).toList, ⟨0, by simp⟩, ?_⟩
  rw [Array.length_toList, size_rep]
  split
  · simp
  · simp [Nat.mul_comm]
/-- extend, a list by a list -/
theorem extend_in {Q : Value → Shared → Prop} {l b : Addr} {n k N : Nat} (X : Fx fr g0 h0 g L s.heap m led) (hm : (l, isPlN N) ∈ led) (hN : n + k ≤ N) (hl : ∃ o, s.heap.get? l = some o ∧ isPlN n o) (hb : ∃ o, s.heap.get? b = some o ∧ isPlN k o) (hsz : n + k ≤ 10000000)
    (hQ : ∀ h', Fx fr g0 h0 g L h' m led → Q .none { s with heap := h' }) : wpAny (Md w) A (call (.builtin "list.extend") ([.ref l] ++ [.ref b])) Q E s := by
  obtain ⟨o, ho, vs, ⟨i, rfl⟩, hv⟩ := hl
  obtain ⟨o, hob, us, ⟨j, rfl⟩, hu⟩ := hb
  have hsize : vs.toArray.size + us.toArray.size ≤ sizeLine := by rw [sizeLine_eq]; simp; omega
  show wpAny (Md w) A (call (.builtin "list.extend") (.ref l :: [.ref b])) Q E s
  refine call_meets (prog := pr) (w := w) PySem.F.slot_list_extend (show s.TypeIs (.ref l) "list" from ⟨_, ho, rfl⟩) PySem.F.entry_list_extend (PySem.F.args_list_extend_2 _ _)
    (AutoSeq1.list_extend_list_list_0 l vs.toArray i b us.toArray j (by
      have : Builtin.List.listTooLong (vs.toArray.size + us.toArray.size) = false := by unfold Builtin.List.listTooLong; exact decide_eq_false (by omega)
      rw [this, Bool.and_false]; exact Bool.false_ne_true) (by omega) (by omega)) ⟨ho, hob, ?_⟩
  refine hQ _ (X.touch hm (Heap.SameBut.update _ _ _) ?_)
  refine ⟨_, Heap.get?_update_self _ ho rfl, vs ++ us, ⟨if ((vs.toArray ++ us.toArray).size == vs.toArray.size) = true then i else i + 1, ?_⟩, by simp; omega⟩
  simp only [Obj.mapSeq, List.append_toArray]
end
section
variable {w : World} {A : Around} {E : Value → Shared → Prop} {s : Shared} {mg mb : Str → Option Value} {env : Env} {sc : Scope} {cl : List (Str × Addr)}
variable {fr : List Addr} {g0 h0 g : Heap} {L : Addr} {m : Str → Option Value} {led : List (Addr × (Obj → Prop))} {v : Value} {x : Str} {pos : Pos}

def isCell (v : Option Value) (o : Obj) : Prop := o.data = .cell v

theorem kinds_of {sc : Scope} {binds : List (Str × Value)} {n : Nat} {cs : List (Str × Addr)} (hcs : cellsFrom n sc.names [] = cs)
    (h : (binds.all fun y => sc.names.lookup y.1 == some .local || (sc.names.lookup y.1 == some .cell && (cs.lookup y.1).isSome)) = true) :
    ∀ x ∈ binds, sc.names.lookup x.1 = some .local ∨ (sc.names.lookup x.1 = some .cell ∧ ((cellsFrom n sc.names []).lookup x.1).isSome = true) := fun x hx => by
  rcases Bool.or_eq_true_iff.mp (List.all_eq_true.mp h x hx) with q | q
  · exact .inl (by simpa using q)
  · rw [Bool.and_eq_true] at q
    exact .inr ⟨by simpa using q.1, by rw [hcs]; exact q.2⟩
/-- a call of a def some of whose names are cells -/
theorem callPC {k : Nat} {Q : Value → Shared → Prop} {name qual : Str} {params : Arguments} {body : List Stmt} {dV kV doc pm cdv ct oc : Value} {an od : Option Addr} {osl : Array (Option Value)} {f : Addr} {args : List Value} {kw : List (Str × Value)} (binds bl bc : List (Str × Value)) (cs : Nat → List (Str × Addr))
    (W : Wd w mg mb g) (hg : Hk g s.heap) (R : Rm A (k + 1))
    (ho : (Kf w).lookup f = some ⟨oc, od, .func (fnX name qual params body sc [] dV kV doc pm an cdv ct), osl⟩) (hcd : codeIn (Kf w) cdv qual = true)
    (hbind : BindsTo s (fnX name qual params body sc [] dV kV doc pm an cdv ct) ⟨args, kw⟩ binds)
    (hkind : ∀ n, (binds.all fun y => sc.names.lookup y.1 == some .local || (sc.names.lookup y.1 == some .cell && ((cs n).lookup y.1).isSome)) = true)
    (hcs : ∀ n, cellsFrom (n + 1) sc.names [] = cs n) (hnd : ∀ n, ((cs n).map (·.1)).Nodup)
    (hbl : bindL (fun y => sc.names.lookup y) binds (fun _ => none) = mOf bl) (hbc : bindC (fun y => sc.names.lookup y) binds (fun _ => none) = mOf bc)
    (hco : sc.isCoroutine = false) (hgen : sc.isGenerator = false) (hk : sc.kind = .function)
    (h : ∀ env L h₁ tk A', IsS0 s → EnvIs env sc L (cs L) → Rm A' k → Fx [] g s.heap g L h₁ (mOf bl) ((cs L).map fun p => (p.2, isCell (mOf bc p.1))) →
      wpAny (Md w) A' (execs body env) (fun fl s' => Q (fval fl) s') (fun _ _ => False) { s with heap := h₁, toks := tk }) :
    wpAny (Md w) A (call (.ref f) args kw) Q E s := by
  have hi := W.K.keeps hg
  refine wpAny_call (codeAny_call_function R.room (hi _ _ ho) rfl hco hgen rfl (codeRec_of hi hcd) (hbind _ _ _ _ ?_))
  refine wpAny_newFunctionEnv_cells hk (kinds_of (hcs _) (hkind _)) fun env' he s' X => ?_
  subst he
  refine ⟨(W.lim.keeps hg).keeps X.toInCall.keep, codeAny_func ?_⟩
  obtain ⟨h₁, tk, rfl, _⟩ := X.toInCall.same
  have hns := X.toInCall.ns
  have hcell := X.cell
  have hap := X.apart
  have hab := X.above
  have hkp := X.toInCall.keep
  simp only [newEnv] at hns hcell hap hab
  have e1 : (fun y => Env.kindOf { scope := sc, locals := s.heap.objs.size, globals := mainGlobals, cells := cellsFrom (s.heap.objs.size + 1) sc.names [], qual := qual ++ ".<locals>.", func := some f, code := cdv, frame := some s.heap.objs.size, builtins := builtinsNs } y) = fun y => sc.names.lookup y := rfl
  have hns' : h₁.Ns s.heap.objs.size (mOf bl) := by rw [← hbl]; exact hns
  have hcell' : ∀ n c, (cs s.heap.objs.size).lookup n = some c → h₁.IsCell c (mOf bc n) := fun n c e => by
    have := hcell n c (by rw [hcs]; exact e)
    rw [← hbc]; exact this
  rw [hcs] at hap hab
  have hled : ∀ p ∈ (cs s.heap.objs.size).map (fun p => (p.2, isCell (mOf bc p.1))), (∃ o, h₁.get? p.1 = some o ∧ p.2 o) ∧ p.1 ≠ s.heap.objs.size ∧ g.get? p.1 = none ∧ (s.heap.get? p.1 = none ∨ p.1 ∈ ([] : List Addr)) := fun p hp => by
    obtain ⟨⟨n, c⟩, hm, rfl⟩ := List.mem_map.mp hp
    have hlt := hab n c hm
    obtain ⟨o, ho, hd⟩ := hcell' n c (lookup_of_mem_nodup (hnd _) hm)
    have hn : s.heap.get? c = none := Heap.get?_none_of_le (Nat.le_of_lt hlt)
    exact ⟨⟨o, ho, hd⟩, Nat.ne_of_gt hlt, none_of_hk hg hn, .inl hn⟩
  have Y : Fx [] g s.heap g s.heap.objs.size h₁ (mOf bl) ((cs s.heap.objs.size).map fun p => (p.2, isCell (mOf bc p.1))) := Fx.start hg hkp hns' (size_none _) hled (by
    rw [List.map_map]
    show ((cs s.heap.objs.size).map fun p => p.2).Nodup
    rw [List.nodup_iff_pairwise_ne, List.pairwise_map]
    exact hap)
  refine wpAny_mono (h _ _ h₁ tk _ trivial ⟨rfl, rfl, rfl, rfl, hcs _, hk⟩ R.deeper Y) (fun fl s' hq => ?_) (fun _ _ x => x.elim)
  cases fl <;> exact hq

/-- a store into a cell, the ledger's first -/
theorem stc0 {Q : Unit → Shared → Prop} {c : Addr} {u : Option Value} (X : Fx fr g0 h0 g L s.heap m ((c, isCell u) :: led)) (he : EnvIs env sc L cl) (hx : sc.names.lookup x = some .cell) (hc : cl.lookup x = some c)
    (h : ∀ h', Fx fr g0 h0 g L h' m ((c, isCell (some v)) :: led) → Q () { s with heap := h' }) : wpAny (Md w) A (storeName env x v) Q E s :=
  wpAny_storeName_cell he.k (he.kindOf hx) (by rw [he.cells]; exact hc) (X.at List.mem_cons_self) fun h' hv hs => h h' (X.turnS hs hv)
/-- a cell of the frame around, within a comprehension -/
theorem ldcH {Q : Value → Shared → Prop} {c : Addr} (X : Fx fr g0 h0 g L s.heap m led) (he : EnvIs env sc L cl) (hx : sc.names.lookup x = some .cell) (hc : cl.lookup x = some c)
    (hP : h0.IsCell c (some v)) (hf : c ∉ fr) (h : Q v s)
    (hd : (x == ("__debug__" : Str)) = false := by decide +kernel) : wpAny (Md w) A (eval (.Name x pos) env) Q E s :=
  wpAny_Name (wpAny_loadName_cell he.k (he.kindOf hx) (by rw [he.cells]; exact hc) (let ⟨o, ho, hp⟩ := hP; ⟨o, X.keep _ _ hf ho, hp⟩) h) hd
theorem ldcL {Q : Value → Shared → Prop} {c : Addr} (X : Fx fr g0 h0 g L s.heap m led) (he : EnvIs env sc L cl) (hx : sc.names.lookup x = some .cell) (hc : cl.lookup x = some c)
    (hm : (c, isCell (some v)) ∈ led) (h : Q v s)
    (hd : (x == ("__debug__" : Str)) = false := by decide +kernel) : wpAny (Md w) A (eval (.Name x pos) env) Q E s :=
  ldc X he hx hc hm (fun _ h => h) h hd

/-- for a, b in a list of pairs that stands still -/
theorem for_pairs {k : Nat} {x y : Str} {px py pt : Pos} {x1 : Nat} {body : List Stmt} {l : Addr} {vs : List Value} {Q : Flow → Shared → Prop} {R : Result → Shared → Prop}
    (J : Nat → Heap → (Str → Option Value) → List (Addr × (Obj → Prop)) → Prop) (rm : Rm A k) (he : EnvIs env sc L cl) (hx : sc.names.lookup x = some .local) (hy : sc.names.lookup y = some .local)
    (X : Fx fr g0 h0 g L s.heap m led) (hl : g.IsList l vs.toArray) (hp : ∀ v ∈ vs, ∃ T a b, v = .ref T ∧ g.IsTuple T [a, b].toArray) (hfr : FrOk fr h0) (hj : J 0 g m led)
    (turn : ∀ i T a b g' m' led' h tk it I E', vs[i]? = some (.ref T) → g.IsTuple T [a, b].toArray → Hk g g' → J i g' m' led' → Fx fr g0 h0 g' L h (mset (mset m' x a) y b) ((I, it) :: led') →
      wpAny (Md w) A (execs body env) (TurnPost fr g0 h0 L I it g' (J (i + 1)) Q s) E' { s with heap := h, toks := tk })
    (done : ∀ g' m' led' h tk, Hk g g' → J vs.length g' m' led' → Fx fr g0 h0 g' L h m' led' → Q .next { s with heap := h, toks := tk })
    (hR : ∀ f s', Q f s' → R (.ok f) s') :
    wpAny (Md w) A (pyIter (.ref l)) (fun it s₂ => codeAny (Md w) A (.forLoop (.Tuple [.Name x px, .Name y py] x1 pt) it body [] env) R s₂) E s := by
  obtain ⟨o, ho, hc, hd⟩ := hl
  refine wpAny_pyIter_list ⟨o, X.now _ _ ho, hc, hd⟩ ?_
  have hne : l ≠ s.heap.objs.size := Nat.ne_of_lt (Heap.lt_size (X.now _ _ ho))
  have hk : Hk s.heap (s.heap.push { cls := .type "list_iterator", data := .fields #[.ref l, .int 0 0] }) := Hk.push _ _
  have X₁ := X.add hk (size_none _) (Heap.get?_push_size _ rfl) (P := fun _ => True) trivial
  refine for_any (s := { s with heap := s.heap.push { cls := .type "list_iterator", data := .fields #[.ref l, .int 0 0] } }) (n := vs.length) (P := fun i v => vs[i]? = some v) (St := fun i h => h.IsListIter s.heap.objs.size l i ∧ h.IsList l vs.toArray) (fp := [s.heap.objs.size, l])
    (by have W := Walks.list (prog := pr) (w := w) rm.hh s.heap.objs.size l hne vs.toArray; simpa using W) ?_ J X₁ ⟨⟨_, Heap.get?_push_size _ rfl, rfl, rfl⟩, ⟨o, hk _ _ (X.now _ _ ho), hc, hd⟩⟩ ?_ (hfr.off X (size_none _)) hj
    (fun i v g' m' led' h tk it E' _ hP hk hJ hst X' => ?_) done hR
  · rintro i h ⟨⟨o, ho, _⟩, _⟩; exact ⟨o, ho⟩
  · intro b hb
    simp only [List.mem_cons, List.not_mem_nil, or_false] at hb
    rcases hb with rfl | rfl
    · exact .inl rfl
    · exact .inr ⟨o, ho⟩
  · obtain ⟨T, a, b, rfl, hT⟩ := hp v (List.mem_of_getElem? hP)
    refine wpAny_letOwnedTupleGo_listiter hst.1 ?_
    refine assign2 rm X' (Heap.IsTuple.hk hT hk) (fun h1 X1 => ?_)
    refine stv X1 he hx fun h2 X2 => ?_
    refine stv X2 he hy fun h3 X3 => ?_
    exact turn i T a b g' m' led' h3 _ it _ E' hP hT hk hJ X3

/-- x[:1] of a text -/
theorem slice1 {Q : Value → Shared → Prop} {value slice : Expr} {t uj : Tok} (X : Fx fr g0 h0 g L s.heap m led) (hsz : x.length ≤ 1000)
    (hs : subscripted slice false (.str x t) (.ref s.heap.objs.size) = operate [.ref s.heap.objs.size, .str x t] (getItem (.str x t) (.ref s.heap.objs.size))) (ht : ∀ r, letTemporaryGo value (.str x t) r = pure ())
    (hQ : ∀ h' t' k, Fx fr g0 h0 g L h' m led → Q (.str (Txt.slice x none (some 1)) t') { s with heap := h', toks := k }) :
    wpAny (Md w) A (subscriptTail value slice (.str x t) (.ref s.heap.objs.size)) Q E { s with heap := s.heap.push { cls := .type "slice", data := .fields #[.none, .int 1 uj, .none] } } := by
  obtain ⟨F, N⟩ := X.lib
  exact slice_strN_ns F N (fun h' t' k F' N' => hQ h' t' k (X.back (extra := []) F' N')) hs ht (by rw [sizeLine_eq]; omega)

theorem in_tup_strs {Q : Value → Shared → Prop} {t : Addr} {vs : List Value} {ys : List Str} {u : Tok} (ht : s.heap.IsTuple t vs.toArray) (hi : StrsAre vs ys) (h : Q (.bool (decide (x ∈ ys))) s) :
    wpAny (Md w) A (compareOp .In (.str x u) (.ref t)) Q E s :=
  in_tuple_strs ht (by simpa using hi) (by rwa [show ys.any (· == x) = decide (x ∈ ys) from by rw [Bool.eq_iff_iff]; simp])

/-- list(a tuple) -/
theorem list_of_tup {Q : Value → Shared → Prop} {t : Addr} {vs : List Value} (X : Fx fr g0 h0 g L s.heap m led) (ht : s.heap.IsTuple t vs.toArray) (hsz : vs.length ≤ 1000)
    (hQ : ∀ a h', s.heap.get? a = none → Fx fr g0 h0 g L h' m ((a, isPl vs) :: led) → Q (.ref a) { s with heap := h' }) : wpAny (Md w) A (call (.type "list") [.ref t]) Q E s := by
  obtain ⟨o, ho, hc, n, hd⟩ := ht
  refine call_list_seq t (.inr rfl) ho hc hd (fun h' c' hk hD => ?_) (by rw [sizeLine_eq]; simp; omega)
  have hs := size_none s.heap
  exact hQ _ h' hs (X.add hk hs hD ⟨c', rfl⟩)
/-- tuple(a list) -/
theorem tup_of_list {Q : Value → Shared → Prop} {l : Addr} {vs : List Value} (f : FrOk fr h0) (X : Fx fr g0 h0 g L s.heap m led) (hl : s.heap.IsList l vs.toArray) (hsz : vs.length ≤ 1000)
    (hQ : ∀ a g' h', Hk g g' → Fx fr g0 h0 g' L h' m led → g'.IsTuple a vs.toArray → Q (.ref a) { s with heap := h' }) : wpAny (Md w) A (call (.type "tuple") [.ref l]) Q E s := by
  refine call_tuple_list hl (fun h' hk => ?_) (by rw [sizeLine_eq]; simp; omega)
  have X1 := X.keeps hk
  have hs := size_none h'
  have Y := X1.add (P := isTup vs) (Hk.push h' { cls := .type "tuple", data := .seq vs.toArray }) hs (Heap.get?_push_size _ rfl) ⟨rfl, 0, rfl⟩
  obtain ⟨g', hk', ht, Z⟩ := Y.freeze (f.off X1 hs)
  exact hQ _ g' _ hk' Z (tupleOf ht)
/-- two lists, one behind the other -/
theorem add_lst {Q : Value → Shared → Prop} {l b : Addr} {vs us : List Value} (X : Fx fr g0 h0 g L s.heap m led) (hl : s.heap.IsList l vs.toArray) (hb : s.heap.IsList b us.toArray) (hsz : vs.length + us.length ≤ 100000)
    (hQ : ∀ a h', s.heap.get? a = none → Fx fr g0 h0 g L h' m ((a, isPl (vs ++ us)) :: led) → Q (.ref a) { s with heap := h' }) : wpAny (Md w) A (binaryOp .Add (.ref l) (.ref b)) Q E s := by
  obtain ⟨F, N⟩ := X.lib
  refine add_arrays F N hl hb (fun h' F' N' => ?_) (by rw [sizeLine_eq]; simp; omega)
  have Y := X.back (extra := [_]) F' N'
  have hs := size_none s.heap
  refine hQ _ h' hs (X.put (P := isPl (vs ++ us)) Y hs (N' _ List.mem_cons_self).1 ⟨0, by simp⟩)
end
/-- the names with rules, in the order in which they came -/
def leftStep (ls : List Str) (p : Str × List Str) : List Str := if p.1 ∈ ls then ls else ls ++ [p.1]
def leftsOf (pp : List (Str × List Str)) : List Str := pp.foldl leftStep []
def ownT : List Str := ["$end", "error", "$undefined"]
def termStep1 (lefts : List Str) (ts : List Str) (n : Str) : List Str := if n ∉ lefts ∧ n ∉ ts then ts ++ [n] else ts
def termStep (lefts : List Str) (ts : List Str) (p : Str × List Str) : List Str := p.2.foldl (termStep1 lefts) ts
def termsOf (pp : List (Str × List Str)) : List Str := pp.foldl (termStep (leftsOf pp)) ownT
def namesOf (pp : List (Str × List Str)) : List Str := termsOf pp ++ (["$accept"] : List Str) ++ leftsOf pp
def ruleOf (names : List Str) (p : Str × List Str) : Nat × List Nat := (names.idxOf p.1, p.2.map names.idxOf)
def rulesOf (pp : List (Str × List Str)) : List (Nat × List Nat) :=
  ((termsOf pp).length, [(namesOf pp).idxOf ((leftsOf pp).getD 0 ""), 0]) :: pp.map (ruleOf (namesOf pp))

theorem foldl_take {α β : Type} (f : β → α → β) (b : β) (l : List α) {i : Nat} (h : i < l.length) : (l.take (i + 1)).foldl f b = f ((l.take i).foldl f b) l[i] := by
  rw [List.take_succ_eq_append_getElem h, List.foldl_append]; rfl

theorem leftStep_mem {ls : List Str} {p : Str × List Str} {n : Str} : n ∈ leftStep ls p ↔ n ∈ ls ∨ n = p.1 := by
  unfold leftStep
  split
  · exact ⟨.inl, fun h => h.elim id fun e => e ▸ ‹_›⟩
  · simp
theorem lefts_mem {n : Str} : ∀ (pp : List (Str × List Str)) (ls : List Str), n ∈ pp.foldl leftStep ls ↔ n ∈ ls ∨ ∃ p ∈ pp, n = p.1
  | [], ls => by simp
  | p :: pp, ls => by rw [List.foldl_cons, lefts_mem pp, leftStep_mem]; simp [or_assoc]
theorem mem_leftsOf {pp : List (Str × List Str)} {n : Str} : n ∈ leftsOf pp ↔ ∃ p ∈ pp, n = p.1 := by unfold leftsOf; rw [lefts_mem]; simp
theorem termStep1_mem {lefts ts : List Str} {n k : Str} : k ∈ termStep1 lefts ts n ↔ k ∈ ts ∨ (k = n ∧ n ∉ lefts) := by
  unfold termStep1
  split
  · rename_i h; simp [h.1]
  · rename_i h
    refine ⟨.inl, fun q => q.elim id fun ⟨e, h1⟩ => ?_⟩
    by_cases h2 : n ∈ ts
    · exact e ▸ h2
    · exact absurd ⟨h1, h2⟩ h
theorem termStep_mem {lefts : List Str} {k : Str} : ∀ {l ts : List Str}, k ∈ l.foldl (termStep1 lefts) ts ↔ k ∈ ts ∨ (k ∈ l ∧ k ∉ lefts)
  | [], ts => by simp
  | n :: l, ts => by
    rw [List.foldl_cons, termStep_mem, termStep1_mem]
    constructor
    · rintro ((h | ⟨rfl, h⟩) | ⟨h1, h2⟩)
      · exact .inl h
      · exact .inr ⟨List.mem_cons_self, h⟩
      · exact .inr ⟨List.mem_cons_of_mem _ h1, h2⟩
    · rintro (h | ⟨h1, h2⟩)
      · exact .inl (.inl h)
      · rcases List.mem_cons.mp h1 with rfl | h1
        · exact .inl (.inr ⟨rfl, h2⟩)
        · exact .inr ⟨h1, h2⟩
theorem terms_mem {lefts : List Str} {k : Str} : ∀ {pp : List (Str × List Str)} {ts : List Str}, k ∈ pp.foldl (termStep lefts) ts ↔ k ∈ ts ∨ ((∃ p ∈ pp, k ∈ p.2) ∧ k ∉ lefts)
  | [], ts => by simp
  | p :: pp, ts => by
    rw [List.foldl_cons, terms_mem]
    unfold termStep
    rw [termStep_mem]
    constructor
    · rintro ((h | ⟨h1, h2⟩) | ⟨⟨q, hq, h1⟩, h2⟩)
      · exact .inl h
      · exact .inr ⟨⟨p, List.mem_cons_self, h1⟩, h2⟩
      · exact .inr ⟨⟨q, List.mem_cons_of_mem _ hq, h1⟩, h2⟩
    · rintro (h | ⟨⟨q, hq, h1⟩, h2⟩)
      · exact .inl (.inl h)
      · rcases List.mem_cons.mp hq with rfl | hq
        · exact .inl (.inr ⟨h1, h2⟩)
        · exact .inr ⟨⟨q, hq, h1⟩, h2⟩
theorem left_in {pp : List (Str × List Str)} {p : Str × List Str} (h : p ∈ pp) : p.1 ∈ namesOf pp := List.mem_append_right _ (mem_leftsOf.mpr ⟨p, h, rfl⟩)
theorem part_in {pp : List (Str × List Str)} {p : Str × List Str} {n : Str} (h : p ∈ pp) (hn : n ∈ p.2) : n ∈ namesOf pp := by
  by_cases hl : n ∈ leftsOf pp
  · exact List.mem_append_right _ hl
  · exact List.mem_append_left _ (List.mem_append_left _ (show n ∈ termsOf pp from terms_mem.mpr (.inr ⟨⟨p, h, hn⟩, hl⟩)))
theorem leftStep_len {ls : List Str} {p : Str × List Str} : ls.length ≤ (leftStep ls p).length ∧ (leftStep ls p).length ≤ ls.length + 1 := by
  unfold leftStep; split <;> simp
theorem lefts_len : ∀ (pp : List (Str × List Str)) (ls : List Str), ls.length ≤ (pp.foldl leftStep ls).length
  | [], ls => Nat.le_refl _
  | p :: pp, ls => Nat.le_trans leftStep_len.1 (lefts_len pp _)
theorem lefts_take_len {pp : List (Str × List Str)} (i : Nat) : ((pp.take i).foldl leftStep []).length ≤ (leftsOf pp).length := by
  have e : pp = pp.take i ++ pp.drop i := (List.take_append_drop i pp).symm
  unfold leftsOf
  conv => rhs; rw [e, List.foldl_append]
  exact lefts_len _ _
theorem termStep1_len {lefts ts : List Str} {n : Str} : ts.length ≤ (termStep1 lefts ts n).length := by unfold termStep1; split <;> simp
theorem termStep_len {lefts : List Str} : ∀ {l ts : List Str}, ts.length ≤ (l.foldl (termStep1 lefts) ts).length
  | [], _ => Nat.le_refl _
  | _ :: _, _ => Nat.le_trans termStep1_len termStep_len
theorem terms_len {lefts : List Str} : ∀ {pp : List (Str × List Str)} {ts : List Str}, ts.length ≤ (pp.foldl (termStep lefts) ts).length
  | [], _ => Nat.le_refl _
  | _ :: _, _ => Nat.le_trans termStep_len terms_len
theorem terms_take_len {pp : List (Str × List Str)} (i : Nat) (j : Nat) (hi : i < pp.length) : ((pp[i].2.take j).foldl (termStep1 (leftsOf pp)) ((pp.take i).foldl (termStep (leftsOf pp)) ownT)).length ≤ (termsOf pp).length := by
  have e : pp = pp.take i ++ (pp[i] :: pp.drop (i + 1)) := by rw [List.getElem_cons_drop, List.take_append_drop]
  unfold termsOf
  conv => rhs; rw [e, List.foldl_append, List.foldl_cons]
  rw [← e]
  refine Nat.le_trans ?_ terms_len
  unfold termStep
  have e2 : pp[i].2 = pp[i].2.take j ++ pp[i].2.drop j := (List.take_append_drop j _).symm
  conv => rhs; rw [e2, List.foldl_append]
  exact termStep_len

structure PPok (pp : List (Str × List Str)) : Prop where
  ne : 0 < pp.length
  l1 : ∀ p ∈ pp, p.1 ≠ "error" ∧ p.1.length ≤ 1000 ∧ Txt.slice p.1 none (some 1) ∉ (["", "$", "'"] : List Str)
  l2 : ∀ p ∈ pp, p.2.length ≤ 500 ∧ ∀ n ∈ p.2, n.length ≤ 1000 ∧ Txt.slice n none (some 1) ∉ (["", "$"] : List Str)
  ps : pp.length ≤ 500
  few : (namesOf pp).length < 1000

def PairAt (g : Heap) (v : Value) (p : Str × List Str) : Prop := ∃ T t l vs, v = .ref T ∧ g.IsTuple T [.str p.1 t, .ref l].toArray ∧ g.IsList l vs.toArray ∧ StrsAre vs p.2
theorem PairAt.hk {g g' : Heap} {v : Value} {p : Str × List Str} (X : PairAt g v p) (hk : Hk g g') : PairAt g' v p :=
  let ⟨T, t, l, vs, e, h1, h2, h3⟩ := X; ⟨T, t, l, vs, e, Heap.IsTuple.hk h1 hk, Heap.IsList.hk h2 hk, h3⟩
def PairsAre (g : Heap) (vs : List Value) (pp : List (Str × List Str)) : Prop := vs.length = pp.length ∧ ∀ i (h : i < vs.length) (h' : i < pp.length), PairAt g vs[i] pp[i]
theorem PairsAre.hk {g g' : Heap} {vs : List Value} {pp : List (Str × List Str)} (X : PairsAre g vs pp) (hk : Hk g g') : PairsAre g' vs pp := ⟨X.1, fun i h h' => (X.2 i h h').hk hk⟩
theorem PairsAre.at {g : Heap} {vs : List Value} {pp : List (Str × List Str)} (X : PairsAre g vs pp) {i : Nat} {v : Value} (hv : vs[i]? = some v) : ∃ (h : i < pp.length), PairAt g v pp[i] := by
  obtain ⟨h1, rfl⟩ := List.getElem?_eq_some_iff.mp hv
  exact ⟨X.1 ▸ h1, X.2 i h1 (X.1 ▸ h1)⟩
theorem PairsAre.tups {g : Heap} {vs : List Value} {pp : List (Str × List Str)} (X : PairsAre g vs pp) : ∀ v ∈ vs, ∃ T a b, v = .ref T ∧ g.IsTuple T [a, b].toArray := fun v hv => by
  obtain ⟨i, h, rfl⟩ := List.mem_iff_getElem.mp hv
  obtain ⟨_, T, t, l, us, e, h1, _⟩ := X.at (i := i) (v := vs[i]) (by simp [h])
  exact ⟨T, _, _, e, h1⟩
/-- a statement whose ways meet again -/
def NextAnd (s : Shared) (Mid : Heap → Prop) (f : Flow) (s' : Shared) : Prop := f = .next ∧ ∃ h tk, s' = { s with heap := h, toks := tk } ∧ Mid h
theorem NextAnd.mk {s s' : Shared} {Mid : Heap → Prop} {h : Heap} {tk : Nat} (hm : Mid h) (e : s' = { s with heap := h, toks := tk } := by with_unfolding_all rfl) : NextAnd s Mid .next s' := ⟨rfl, h, tk, e, hm⟩
theorem mid {M : Model} {A : Around} {E : Value → Shared → Prop} {s S : Shared} {env : Env} {st : Stmt} {Q : Flow → Shared → Prop} (_ : IsS0 s) (Mid : Heap → Prop)
    (h : wpAny M A (exec st env) (NextAnd s Mid) E S) (hr : ∀ h tk, Mid h → Q .next { s with heap := h, toks := tk }) : wpAny M A (exec st env) Q E S :=
  wpAny_mono h (fun f s' q => by obtain ⟨rfl, h, tk, rfl, hm⟩ := q; exact hr h tk hm) fun _ _ e => e
theorem mid' {M : Model} {A : Around} {E : Value → Shared → Prop} {s S : Shared} {env : Env} {st rest} {Q : Flow → Shared → Prop} (_ : IsS0 s) (Mid : Heap → Prop)
    (h : wpAny M A (exec st env) (NextAnd s Mid) E S) (hr : ∀ h tk, Mid h → wpAny M A (execs rest env) Q E { s with heap := h, toks := tk }) : wpAny M A (exec st env) (thenRest M A rest env Q E) E S :=
  mid ‹_› Mid h hr
/-- a value whose ways meet again -/
def ValAnd (s : Shared) (Mid : Value → Heap → Prop) (v : Value) (s' : Shared) : Prop := ∃ h tk, s' = { s with heap := h, toks := tk } ∧ Mid v h
theorem ValAnd.mk {s s' : Shared} {Mid : Value → Heap → Prop} {v : Value} {h : Heap} {tk : Nat} (hm : Mid v h) (e : s' = { s with heap := h, toks := tk } := by with_unfolding_all rfl) : ValAnd s Mid v s' := ⟨h, tk, e, hm⟩
theorem midv {M : Model} {A : Around} {E : Value → Shared → Prop} {s S : Shared} {env : Env} {e : Expr} {Q : Value → Shared → Prop} (_ : IsS0 s) (Mid : Value → Heap → Prop)
    (h : wpAny M A (eval e env) (ValAnd s Mid) E S) (hr : ∀ v h tk, Mid v h → Q v { s with heap := h, toks := tk }) : wpAny M A (eval e env) Q E S :=
  wpAny_mono h (fun v s' q => by obtain ⟨h, tk, rfl, hm⟩ := q; exact hr v h tk hm) fun _ _ e => e
theorem leftStep_in {ls : List Str} {p : Str × List Str} (h : p.1 ∈ ls) : leftStep ls p = ls := if_pos h
theorem leftStep_new {ls : List Str} {p : Str × List Str} (h : p.1 ∉ ls) : leftStep ls p = ls ++ [p.1] := if_neg h
theorem termStep1_new {lefts ts : List Str} {n : Str} (h : n ∉ lefts) (h2 : n ∉ ts) : termStep1 lefts ts n = ts ++ [n] := if_pos ⟨h, h2⟩
theorem termStep1_old {lefts ts : List Str} {n : Str} (h : ¬ (n ∉ lefts ∧ n ∉ ts)) : termStep1 lefts ts n = ts := if_neg h
/-- one of the ledger's objects turned, all else as it was -/
theorem Fx.retarget {fr : List Addr} {g0 h0 g h h' : Heap} {L : Addr} {m : Str → Option Value} {led led' : List (Addr × (Obj → Prop))} {a : Addr} {P P' : Obj → Prop} (X : Fx fr g0 h0 g L h m led) (hm : (a, P) ∈ led) (hs : Heap.SameBut a h h') (ho : ∃ o, h'.get? a = some o ∧ P' o)
    (hmap : led'.map (·.1) = led.map (·.1)) (hl : ∀ p ∈ led', (p.1 = a ∧ ∀ o, P' o → p.2 o) ∨ (p ∈ led ∧ p.1 ≠ a)) : Fx fr g0 h0 g L h' m led' := by
  obtain ⟨_, hL, hg, h0'⟩ := X.led_ (a, P) hm
  refine ⟨⟨X.old, fun b o e => (hs.2 b fun q => by rw [q, hg] at e; cases e).trans (X.now b o e), X.new, fun b o hb e => ?_, fun b o e => ?_⟩, X.ns.sameBut hs (Ne.symm hL), X.off, X.off0, fun p hp => ?_, by rw [hmap]; exact X.nd⟩
  · refine (hs.2 b fun q => ?_).trans (X.keep b o hb e)
    rcases h0' with h | h
    · rw [q, h] at e; cases e
    · exact hb (q ▸ h)
  · obtain ⟨o2, ho2⟩ := X.live b o e
    by_cases q : b = a
    · obtain ⟨o3, h3, _⟩ := ho; exact ⟨o3, q ▸ h3⟩
    · exact ⟨o2, (hs.2 b q).trans ho2⟩
  · rcases hl p hp with ⟨rfl, hP⟩ | ⟨hp, hne⟩
    · obtain ⟨o, e, ho⟩ := ho
      exact ⟨⟨o, e, hP o ho⟩, hL, hg, h0'⟩
    · obtain ⟨⟨o, e, hP⟩, r⟩ := X.led_ p hp
      exact ⟨⟨o, (hs.2 _ hne).trans e, hP⟩, r⟩
theorem tup2_eq {g : Heap} {T : Addr} {a b c d : Value} (h1 : g.IsTuple T [a, b].toArray) (h2 : g.IsTuple T [c, d].toArray) : c = a ∧ d = b := by
  obtain ⟨o, ho, _, n, hd⟩ := h1
  obtain ⟨o', ho', _, n', hd'⟩ := h2
  rw [ho] at ho'; cases ho'
  rw [hd] at hd'
  injection hd' with hd' _
  simp at hd'
  exact ⟨hd'.1.symm, hd'.2.symm⟩
theorem RulesAre.snoc {g : Heap} {vs : List Value} {rs : List (Nat × List Nat)} {v : Value} {r : Nat × List Nat} (X : RulesAre g vs rs) (h : RuleAt g v r.1 r.2) : RulesAre g (vs ++ [v]) (rs ++ [r]) := by
  refine ⟨by simp [X.1], fun i h1 h2 => ?_⟩
  by_cases q : i < vs.length
  · rw [List.getElem_append_left q, List.getElem_append_left (by rw [← X.1]; exact q)]
    exact X.2 i q (by rw [← X.1]; exact q)
  · have : i = vs.length := by simp at h1; omega
    subst this
    have e : (rs ++ [r])[vs.length] = r := by
      rw [List.getElem_append_right (by rw [X.1]; exact Nat.le_refl _)]
      simp [X.1]
    rw [e]
    simpa using h
theorem rules_ok {pp : List (Str × List Str)} (ok : PPok pp) : ∀ p ∈ rulesOf pp, p.1 < (namesOf pp).length ∧ p.2.length ≤ 1000 := fun p hp => by
  unfold rulesOf at hp
  rcases List.mem_cons.mp hp with rfl | hp
  · exact ⟨by simp [namesOf], by simp⟩
  · obtain ⟨q, hq, rfl⟩ := List.mem_map.mp hp
    refine ⟨List.idxOf_lt_length_iff.mpr (left_in hq), ?_⟩
    have := (ok.l2 _ hq).1
    simp [ruleOf]; omega
def closF (cl : List (Str × Addr)) (cs : List (Str × Addr)) (p : Str × NameKind) : List (Str × Addr) :=
  if p.2 == .free then (match cl.lookup p.1 with | some c => (p.1, c) :: cs | none => cs) else cs
/-- what a comprehension takes along -/
theorem closureFor_cells {scope : Scope} {env : Env} {cl cl' : List (Str × Addr)} (he : env.cells = cl) (h : (scope.names.all fun p => p.2 != .free || (cl.lookup p.1).isSome) = true) (hc : scope.names.foldl (closF cl) [] = cl') :
    closureFor scope env = pure cl' := by
  subst hc
  simp only [closureFor]
  suffices H : ∀ (l : List (Str × NameKind)) (c : List (Str × Addr)), (l.all fun p => p.2 != .free || (cl.lookup p.1).isSome) = true →
      (forIn l c fun x r => if (x.2 == NameKind.free) = true then do let a ← cellOf env x.1; pure (ForInStep.yield ((x.1, a) :: r)) else pure (ForInStep.yield r) : Sem (List (Str × Addr))) = pure (l.foldl (closF cl) c) by
    have := H scope.names [] h
    simp only [bind_pure]
    exact this
  intro l
  induction l with
  | nil => intro c _; rfl
  | cons p l ih =>
    intro c h
    rw [List.all_cons, Bool.and_eq_true] at h
    rw [List.forIn_cons, List.foldl_cons]
    have e : (if (p.2 == NameKind.free) = true then do let a ← cellOf env p.1; pure (ForInStep.yield ((p.1, a) :: c)) else pure (ForInStep.yield c) : Sem (ForInStep (List (Str × Addr)))) = pure (.yield (closF cl c p)) := by
      unfold closF
      by_cases hf : (p.2 == NameKind.free) = true
      · rw [if_pos hf, if_pos hf]
        have h1 := h.1
        have hf' : p.2 = .free := by simpa using hf
        rw [hf'] at h1
        have h2 : (cl.lookup p.1).isSome = true := by simpa using h1
        obtain ⟨a, ha⟩ := Option.isSome_iff_exists.mp h2
        unfold cellOf
        rw [he, ha]
        simp
      · rw [if_neg hf, if_neg hf]
    rw [e, pure_bind]
    exact ih _ h.2
theorem Fx.perm {fr : List Addr} {g0 h0 g h : Heap} {L : Addr} {m : Str → Option Value} {led led' : List (Addr × (Obj → Prop))} (X : Fx fr g0 h0 g L h m led) (hp : led'.Perm led) : Fx fr g0 h0 g L h m led' :=
  X.sub (fun p h => hp.mem_iff.mp h) ((hp.map (·.1)).nodup_iff.mpr X.nd)
theorem Fx.pick {fr : List Addr} {g0 h0 g h : Heap} {L : Addr} {m : Str → Option Value} {l2 : List (Addr × (Obj → Prop))} {p : Addr × (Obj → Prop)} (l1 : List (Addr × (Obj → Prop))) (X : Fx fr g0 h0 g L h m (l1 ++ p :: l2)) : Fx fr g0 h0 g L h m (p :: (l1 ++ l2)) :=
  X.perm List.perm_middle.symm
theorem Fx.unpick {fr : List Addr} {g0 h0 g h : Heap} {L : Addr} {m : Str → Option Value} {l2 : List (Addr × (Obj → Prop))} {p : Addr × (Obj → Prop)} (l1 : List (Addr × (Obj → Prop))) (X : Fx fr g0 h0 g L h m (p :: (l1 ++ l2))) : Fx fr g0 h0 g L h m (l1 ++ p :: l2) :=
  X.perm List.perm_middle
theorem fm_some {α β : Type} {g : α → Option β} {h : α → β} : ∀ {L : List α}, (∀ k ∈ L, g k = some (h k)) → L.filterMap g = L.map h
  | [], _ => rfl
  | a :: L, H => by
    rw [List.filterMap_cons, H a List.mem_cons_self, List.map_cons, fm_some fun k hk => H k (List.mem_cons_of_mem _ hk)]
theorem rev_idx (l : List Value) : ((List.range l.length).map fun k : Nat => l.length - 1 - k).filterMap (fun i => l[i]?) = l.reverse := by
  rw [List.filterMap_map]
  have h : ∀ k ∈ List.range l.length, ((fun i => l[i]?) ∘ fun k : Nat => l.length - 1 - k) k = some (l.reverse.getD k .none) := fun k hk => by
    have hk := List.mem_range.mp hk
    have h2 : k < l.reverse.length := by simpa using hk
    show l[l.length - 1 - k]? = _
    rw [List.getD, ← List.getElem?_reverse hk, List.getElem?_eq_getElem h2]
    rfl
  rw [fm_some h]
  refine List.ext_getElem (by simp) fun i h1 h2 => ?_
  have h3 : i < l.reverse.length := h2
  simp only [List.getElem_map, List.getElem_range, List.getD, List.getElem?_eq_getElem h3, Option.getD_some]
theorem rev_pick (items : Array Value) : slicePick items none none (some (-1)) = items.toList.reverse.toArray := by
  unfold slicePick
  have b : sliceBounds none none (some (-1)) items.size = ((items.size : Int) - 1, -1, -1) := rfl
  rw [b]
  have r : sliceRange ((items.size : Int) - 1) (-1) (-1) = (List.range items.toList.length).map fun k : Nat => items.toList.length - 1 - k := by
    unfold sliceRange
    have c : (if (-1 : Int) > 0 then (if ((items.size : Int) - 1) < -1 then (-1 - ((items.size : Int) - 1) + -1 - 1) / -1 else 0) else (if ((items.size : Int) - 1) > -1 then (((items.size : Int) - 1) - -1 - -1 - 1) / (- -1) else 0)).toNat = items.toList.length := by
      rw [if_neg (by decide)]
      have : (- -1 : Int) = 1 := rfl
      rw [this, Int.ediv_one, Array.length_toList]
      split <;> omega
    dsimp only
    rw [c]
    refine List.map_congr_left fun k hk => ?_
    have := List.mem_range.mp hk
    rw [Array.length_toList] at this ⊢
    omega
  show (((sliceRange ((items.size : Int) - 1) (-1) (-1)).filterMap fun i => items[i]?)).toArray = _
  rw [r]
  have := rev_idx items.toList
  simp only [Array.getElem?_toList] at this
  rw [this]
theorem intBits_le {a : Int} {n : Nat} (h : a.natAbs < 2 ^ n) : Builtin.Int.intBits a ≤ n + 1 := by
  unfold Builtin.Int.intBits
  split
  · omega
  · rename_i h0
    have h1 : a.natAbs ≠ 0 := fun q => h0 (by simp [Int.natAbs_eq_zero.mp q])
    have := (Nat.log2_lt h1).mpr h
    omega
theorem pow_fits (n : Nat) {x : Int} (h : x = (n : Int) ∧ n < 2 ^ 60) : (Builtin.Int.intBits x : Int) * 3 ≤ 2 ^ 27 := by
  obtain ⟨rfl, h⟩ := h
  have := intBits_le (a := (n : Int)) (n := 60) (by simpa using h)
  omega
theorem noPylong_many {d : Int} {many : Nat} (h : many < 2 ^ 30) : Builtin.divisionGoesByPylong d many = false := by
  unfold Builtin.divisionGoesByPylong
  dsimp only
  rw [Bool.and_eq_false_iff]
  left
  rw [decide_eq_false_iff_not]
  split
  · omega
  · rename_i h0
    have h1 : ((many : Nat) : Int).natAbs ≠ 0 := fun q => h0 (by simp [Int.natAbs_eq_zero.mp q])
    have := (Nat.log2_lt h1).mpr (show ((many : Nat) : Int).natAbs < 2 ^ 30 by simpa using h)
    omega
theorem testsOf_one {M : Model} {A : Around} {E : Value → Shared → Prop} {s : Shared} {c : Expr} {cenv : Env} {Q : Bool → Shared → Prop} (h : wpAny M A (isTrue c cenv (eval c cenv)) Q E s) : wpAny M A (testsOf [c] cenv) Q E s := by
  unfold testsOf
  rw [List.forIn_cons]
  refine wpAny_bind ?_
  rw [if_pos rfl]
  exact wpAny_bind (wpAny_mono h (fun ok s q => wpAny_pure (wpAny_pure q)) fun _ _ e => e)
def bitsOf (n : Nat) : List Nat := (List.range 200).filter fun p => n / 2 ^ p % 2 = 1
theorem bits_succ (n i : Nat) : (List.range (i + 1)).filter (fun p => n / 2 ^ p % 2 = 1) = (List.range i).filter (fun p => n / 2 ^ p % 2 = 1) ++ if n / 2 ^ i % 2 = 1 then [i] else [] := by
  rw [List.range_succ, List.filter_append]
  congr 1
  split
  · rename_i h; rw [List.filter_cons_of_pos (by simpa using h)]; rfl
  · rename_i h; rw [List.filter_cons_of_neg (by simpa using h)]; rfl
theorem noPylong_two {d : Int} {i : Nat} (h : i < 200) : Builtin.divisionGoesByPylong d (2 ^ i) = false := by
  unfold Builtin.divisionGoesByPylong
  dsimp only
  rw [Bool.and_eq_false_iff]
  left
  rw [decide_eq_false_iff_not]
  split
  · omega
  · have e : ((2 : Int) ^ i).natAbs = 2 ^ i := by rw [Int.natAbs_pow]; rfl
    rw [e, Nat.log2_two_pow]
    omega
/-- the tape: digits, seed, how often it was read */ -/
def isTape (n : Nat) (o : Obj) : Prop := ∃ (d e c : Nat) (t1 t2 t3 : Tok), isLst [.int d t1, .int e t2, .int c t3] o ∧ e < 1000000007 ∧ c ≤ n
section
variable {w : World} {A : Around} {E : Value → Shared → Prop} {s : Shared} {mg mb : Str → Option Value} {env : Env} {sc : Scope} {cl : List (Str × Addr)}
variable {fr : List Addr} {g0 h0 g g1 : Heap} {L : Addr} {h h1 : Heap} {m : Str → Option Value} {led : List (Addr × (Obj → Prop))} {x : Addr} {P : Obj → Prop}
/-- a call's new object, onto the ledger -/
theorem Fx.adopt (X : Fx fr g0 h0 g L h m led) (O : Out [] g h g1 h1) (hx : h.get? x = none) (hg1 : g1.get? x = none) (ho : ∃ o, h1.get? x = some o ∧ P o) : Fx fr g0 h0 g1 L h1 m ((x, P) :: led) := by
  have Y := X.out O
  obtain ⟨n1, n2, n3, n4⟩ := X.fresh_ne hx
  have Z := Y.more (led' := [(x, P)]) (fun p hp => by
    rw [List.mem_singleton.mp hp]
    exact ⟨ho, n1, hg1, n3, n4⟩) (by simp)
  exact Z.perm (List.perm_append_singleton ..).symm
/-- what a callee's ledger says of a new object -/
theorem Fx.news (X : Fx [] g0 h0 g L h m led) (hm : (x, P) ∈ led) : h0.get? x = none ∧ g.get? x = none ∧ ∃ o, h.get? x = some o ∧ P o := by
  obtain ⟨a, _, c, d⟩ := X.led_ _ hm
  exact ⟨d.resolve_right (by simp), c, a⟩

/-- a[lo:hi] of a list -/
theorem slice_l {Q : Value → Shared → Prop} {value slice : Expr} {l : Addr} {vs : List Value} {vl vu : Value} {lo hi : Option Int} (X : Fx fr g0 h0 g L s.heap m led) (hl : s.heap.IsList l vs.toArray) (pl : IsPart vl lo) (pu : IsPart vu hi) (hsz : vs.length ≤ 100000)
    (hs : subscripted slice false (.ref l) (.ref s.heap.objs.size) = operate [.ref s.heap.objs.size, .ref l] (getItem (.ref l) (.ref s.heap.objs.size))) (ht : ∀ r, letTemporaryGo value (.ref l) r = pure ())
    (hQ : ∀ a h', s.heap.get? a = none → Fx fr g0 h0 g L h' m ((a, isPl (slicePick vs.toArray lo hi none).toList) :: led) → Q (.ref a) { s with heap := h' }) :
    wpAny (Md w) A (subscriptTail value slice (.ref l) (.ref s.heap.objs.size)) Q E { s with heap := s.heap.push { cls := .type "slice", data := .fields #[vl, vu, .none] } } := by
  obtain ⟨F, N⟩ := X.lib
  refine slice_list F N hl pl pu (fun h' F' N' => ?_) hs ht (by rw [sizeLine_eq]; simp; omega)
  have Y := X.back (extra := [_]) F' N'
  have hn : s.heap.get? (s.heap.objs.size + 1) = none := Heap.get?_none_of_le (Nat.le_succ _)
  exact hQ _ h' hn (X.put Y hn (N' _ List.mem_cons_self).1 ⟨0, by simp⟩)
/-- a[::-1] of a list -/
theorem rev_l {Q : Value → Shared → Prop} {value slice : Expr} {l : Addr} {vs : List Value} {vk : Value} {ops : List Value} (X : Fx fr g0 h0 g L s.heap m led) (hl : s.heap.IsList l vs.toArray) (pk : IsPart vk (some (-1))) (hsz : vs.length ≤ 100000)
    (hs : subscripted slice false (.ref l) (.ref s.heap.objs.size) = operate ops (getItem (.ref l) (.ref s.heap.objs.size))) (ht : ∀ r, letTemporaryGo value (.ref l) r = pure ())
    (hQ : ∀ a h', s.heap.get? a = none → Fx fr g0 h0 g L h' m ((a, isPl vs.reverse) :: led) → Q (.ref a) { s with heap := h' }) :
    wpAny (Md w) A (subscriptTail value slice (.ref l) (.ref s.heap.objs.size)) Q E { s with heap := s.heap.push { cls := .type "slice", data := .fields #[.none, .none, vk] } } := by
  obtain ⟨F, N⟩ := X.lib
  refine slice_list3 F N hl .none .none pk (by decide) (fun h' F' N' => ?_) hs ht (by rw [sizeLine_eq]; simp; omega)
  have Y := X.back (extra := [_]) F' N'
  have hn : s.heap.get? (s.heap.objs.size + 1) = none := Heap.get?_none_of_le (Nat.le_succ _)
  refine hQ _ h' hn (X.put Y hn (N' _ List.mem_cons_self).1 ⟨0, ?_⟩)
  rw [rev_pick]
theorem sw_const {a b c d : Expr} {k k' : Nat} {t t' : Pos} (h : [c, d].all (foldedForSure 8) = true) (hs : ([c, d].any fun | .Starred .. => true | _ => false) = false) : swappedStores [.Tuple [a, b] k t] (.Tuple [c, d] k' t') env = pure none := by
  unfold swappedStores
  dsimp only
  rw [if_pos h]
  split
  · rfl
  split
  · rfl
  split
  · rfl
  · rfl
end
theorem valueAt_mapset {K : Type} [DecidableEq K] (k x : K) (v : Value) : ∀ kvs : List (K × Value), valueAt (kvs.map fun kv => if kv.1 = k then (kv.1, v) else kv) x = if x = k then (valueAt kvs k).map (fun _ => v) else valueAt kvs x
  | [] => by simp [valueAt]
  | (a, b) :: l => by
    have ih := valueAt_mapset k x v l
    unfold valueAt at ih ⊢
    by_cases h : a = k
    · subst h
      by_cases h2 : x = a
      · subst h2; simp
      · have h3 : ¬ a = x := fun q => h2 q.symm
        simp only [List.map_cons, if_true, if_neg h2] at ih ⊢
        rw [List.find?_cons_of_neg (by simpa using h3), List.find?_cons_of_neg (by simpa using h3)]
        exact ih
    · simp only [List.map_cons, if_neg h]
      by_cases h2 : x = k
      · subst h2
        simp only [if_true] at ih ⊢
        rw [List.find?_cons_of_neg (by simpa using h), List.find?_cons_of_neg (by simpa using h)]
        exact ih
      · simp only [if_neg h2] at ih ⊢
        by_cases h3 : a = x
        · subst h3; simp
        · rw [List.find?_cons_of_neg (by simpa using h3), List.find?_cons_of_neg (by simpa using h3)]
          exact ih
theorem valueAt_stored {K : Type} [DecidableEq K] (kvs : List (K × Value)) (k x : K) (v : Value) : valueAt (stored kvs k v) x = if x = k then some v else valueAt kvs x := by
  unfold stored
  split
  · rename_i h
    rw [valueAt_mapset]
    by_cases h2 : x = k
    · rw [if_pos h2, if_pos h2]
      obtain ⟨p, hp, e⟩ := List.any_eq_true.mp h
      have : (kvs.find? fun kv => kv.1 = k).isSome = true := List.find?_isSome.mpr ⟨p, hp, e⟩
      obtain ⟨q, hq⟩ := Option.isSome_iff_exists.mp this
      unfold valueAt; rw [hq]; rfl
    · rw [if_neg h2, if_neg h2]
  · rename_i h
    unfold valueAt
    rw [List.find?_append]
    by_cases h2 : x = k
    · subst h2
      have : kvs.find? (fun kv => kv.1 = x) = none := by
        rw [List.find?_eq_none]
        intro p hp q
        exact h (List.any_eq_true.mpr ⟨p, hp, q⟩)
      rw [this]; simp
    · have h3 : ¬ k = x := fun q => h2 q.symm
      rw [if_neg h2]
      simp [h3]

/-- a dict of ints by name -/
def setF (f : Str → Option Nat) (k : Str) (n : Nat) : Str → Option Nat := fun x => if x = k then some n else f x
def LensAre (kvs : List (Str × Value)) (f : Str → Option Nat) : Prop := ∀ k, match f k with
  | none => valueAt kvs k = none
  | some n => ∃ t, valueAt kvs k = some (.int n t)
theorem LensAre.set {kvs : List (Str × Value)} {f : Str → Option Nat} (X : LensAre kvs f) (k : Str) (n : Nat) (t : Tok) : LensAre (stored kvs k (.int n t)) (setF f k n) := fun x => by
  unfold setF
  rw [valueAt_stored]
  by_cases h : x = k
  · simp only [if_pos h]; exact ⟨t, rfl⟩
  · simp only [if_neg h]; exact X x
theorem LensAre.nil : LensAre [] fun _ => none := fun _ => rfl
theorem LensAre.get {kvs : List (Str × Value)} {f : Str → Option Nat} (X : LensAre kvs f) {k : Str} {n : Nat} (h : f k = some n) : ∃ t, valueAt kvs k = some (.int n t) := by
  have := X k; rw [h] at this; exact this
theorem LensAre.none {kvs : List (Str × Value)} {f : Str → Option Nat} (X : LensAre kvs f) {k : Str} (h : f k = none) : valueAt kvs k = none := by
  have := X k; rw [h] at this; exact this

/-- the names d0 d1 .. -/
def dn (i : Nat) : Str := ("d" : Str) ++ Str.ofString (toString (i : Int))
def topOf (size : Nat) : Nat := (bitsOf size).getLast?.getD 0
def len0 (size : Nat) : Str → Option Nat := setF (setF (setF (setF (setF (setF (fun _ => none) "a" 1) "d0" 1) "w" size) "more" (size + 1)) "twice" (2 * size)) "either" size
def lenAt (size i : Nat) : Str → Option Nat := (List.range i).foldl (fun f p => setF f (dn (p + 1)) (2 ^ (p + 1))) (len0 size)
theorem lenAt_succ (size i : Nat) : lenAt size (i + 1) = setF (lenAt size i) (dn (i + 1)) (2 ^ (i + 1)) := by
  unfold lenAt; rw [List.range_succ, List.foldl_append]; rfl
def lensOf (size : Nat) : Str → Option Nat := lenAt size (topOf size)
def dPP (i : Nat) : Str × List Str := (dn (i + 1), [dn i, dn i])
def basePP (i : Nat) : List (Str × List Str) := ("d0", ["a"]) :: (List.range i).map dPP
theorem basePP_succ (i : Nat) : basePP (i + 1) = basePP i ++ [dPP i] := by unfold basePP; rw [List.range_succ, List.map_append]; rfl
def formsPP (size : Nat) : List (Str × List Str) := [("w", (bitsOf size).map dn), ("w", "a" :: (bitsOf size).map dn)]
def othersPP : List (Str × List Str) := [("more", ["w", "a"]), ("twice", ["w", "w"]), ("either", ["error"]), ("either", ["w"]), ("nothing", ["a", "nothing"]), ("nothing", ["error"])]
def restPP (size : Nat) (f : Bool) : List (Str × List Str) := basePP (topOf size) ++ (if f then formsPP size else (formsPP size).reverse) ++ othersPP
def ppOf (size : Nat) (f r : Bool) : List (Str × List Str) := ("s", ["w", "d0"]) :: (if r then (restPP size f).reverse else restPP size f)
theorem bits_lt {size i : Nat} (h : i ∈ bitsOf size) : i < 200 := by
  unfold bitsOf at h; exact List.mem_range.mp (List.mem_filter.mp h).1
theorem top_lt (size : Nat) : topOf size < 200 := by
  unfold topOf
  cases h : (bitsOf size).getLast? with
  | none => simp
  | some i => exact bits_lt (List.mem_of_getLast? h)
theorem bits_len (size : Nat) : (bitsOf size).length ≤ 200 := by
  unfold bitsOf
  exact Nat.le_trans (List.length_filter_le _ _) (by simp)

theorem PairsAre.nil {g : Heap} : PairsAre g [] [] := ⟨rfl, fun i h => nomatch h⟩
theorem PairsAre.append {g : Heap} {vs us : List Value} {pp qq : List (Str × List Str)} (X : PairsAre g vs pp) (Y : PairsAre g us qq) : PairsAre g (vs ++ us) (pp ++ qq) := by
  refine ⟨by simp [X.1, Y.1], fun i h1 h2 => ?_⟩
  by_cases q : i < vs.length
  · rw [List.getElem_append_left q, List.getElem_append_left (by rw [← X.1]; exact q)]
    exact X.2 i q (by rw [← X.1]; exact q)
  · rw [List.getElem_append_right (by omega), List.getElem_append_right (by rw [← X.1]; omega)]
    have e : i - pp.length = i - vs.length := by rw [X.1]
    simp only [e]
    exact Y.2 _ _ _
theorem PairsAre.one {g : Heap} {v : Value} {p : Str × List Str} (h : PairAt g v p) : PairsAre g [v] [p] := ⟨rfl, fun i h1 h2 => by
  have : i = 0 := by simp at h1; omega
  subst this; exact h⟩
theorem PairsAre.reverse {g : Heap} {vs : List Value} {pp : List (Str × List Str)} (X : PairsAre g vs pp) : PairsAre g vs.reverse pp.reverse := by
  refine ⟨by simp [X.1], fun i h1 h2 => ?_⟩
  rw [List.getElem_reverse, List.getElem_reverse]
  have e : pp.length - 1 - i = vs.length - 1 - i := by rw [X.1]
  simp only [e]
  exact X.2 _ _ _
theorem isTape.mono {n k : Nat} (h : n ≤ k) : ∀ o, isTape n o → isTape k o := fun _ ⟨d, e, c, t1, t2, t3, hp, h1, h2⟩ => ⟨d, e, c, t1, t2, t3, hp, h1, Nat.le_trans h2 h⟩

theorem merged_length_le {K : Type} [DecidableEq K] : ∀ (b a : List (K × Value)), (merged a b).length ≤ a.length + b.length
  | [], a => by simp [merged]
  | p :: b, a => by
    have := merged_length_le b (stored a p.1 p.2)
    have h2 := stored_length_le a p.1 p.2
    simp only [merged, List.foldl_cons, List.length_cons] at this ⊢
    omega
def kvs0 (size : Nat) (t1 t2 t3 t4 t5 t6 : Tok) : List (Str × Value) := merged [] [("a", .int 1 t1), ("d0", .int 1 t2), ("w", .int size t3), ("more", .int ((size : Int) + 1) t4), ("twice", .int (2 * (size : Int)) t5), ("either", .int size t6)]
theorem kvs0_lens (size : Nat) (t1 t2 t3 t4 t5 t6 : Tok) : LensAre (kvs0 size t1 t2 t3 t4 t5 t6) (len0 size) := by
  unfold kvs0 merged len0
  exact (((((LensAre.nil.set "a" 1 t1).set "d0" 1 t2).set "w" size t3).set "more" (size + 1) t4).set "twice" (2 * size) t5).set "either" size t6
theorem kvs0_len (size : Nat) (t1 t2 t3 t4 t5 t6 : Tok) : (kvs0 size t1 t2 t3 t4 t5 t6).length ≤ 6 := merged_length_le _ _
theorem txt_len : ∀ i < 202, (Str.ofString (toString ((i : Nat) : Int))).length ≤ 3 := by decide +kernel
theorem log_small {i : Nat} (h : i < 202) : ((i : Nat) : Int).natAbs.log2 < 1920 := by
  rw [Int.natAbs_natCast]
  by_cases h0 : i = 0
  · subst h0; decide
  · have := (Nat.log2_lt h0 (k := 8)).mpr (by omega)
    omega
section
variable {w : World} {A : Around} {E : Value → Shared → Prop} {s : Shared} {Q : Value → Shared → Prop}
theorem str_i {i : Nat} {t : Tok} (hi : i < 202) (h : ∀ t tk, Q (.str (Str.ofString (toString (i : Int))) t) { s with toks := tk }) : wpAny (Md w) A (call (.type "str") [.int i t]) Q E s :=
  PySem.P.str_of_int (log_small hi) (h _ _)
theorem add_d {i : Nat} {t u : Tok} (hi : i < 202) (h : ∀ t tk, Q (.str (dn i) t) { s with toks := tk }) : wpAny (Md w) A (binaryOp .Add (.str "d" u) (.str (Str.ofString (toString (i : Int))) t)) Q E s :=
  PyProof.Rows.add_str (fun t' tk => h t' tk) (by have := txt_len i hi; rw [sizeLine_eq]; have : ("d" : Str).length = 1 := by decide +kernel
                                                  omega)
theorem dsys {mg mb : Str → Option Value} {fr : List Addr} {g0 h0 g h : Heap} {L : Addr} {m : Str → Option Value} {led : List (Addr × (Obj → Prop))} (W : Wd w mg mb g) (X : Fx fr g0 h0 g L h m led) : (h.objs.size == sysModules) = false := by
  have hlt : mainGlobals < h.objs.size := (W.G.keeps X.now).lt
  have : sysModules ≤ mainGlobals := by decide
  simp only [beq_eq_false_iff_ne]; exact Nat.ne_of_gt (Nat.lt_of_le_of_lt this hlt)
/-- {k: v, ..}, where the values make nothing -/
theorem dict_show {K : Type} [DecidableEq K] (knd : KeyKind pr w K) {mg mb : Str → Option Value} {fr : List Addr} {g0 h0 g : Heap} {L : Addr} {m : Str → Option Value} {led : List (Addr × (Obj → Prop))} {env : Env} {keys : List (Option Expr)} {values : List Expr} {pos : Pos}
    (W : Wd w mg mb g) (X : Fx fr g0 h0 g L s.heap m led) (hall : keys.all (·.isSome) = true) (hl : keys.length = values.length) (hn0 : keys ≠ []) (hlen : keys.length ≤ 15)
    (h : ∀ d h1, s.heap.get? d = none → h0.get? d = none → (d == sysModules) = false → Fx fr g0 h0 g L h1 m ((d, fun o => o.IsDictOf knd []) :: led) →
      wpAny (Md w) A (evalPairs (pairTrees keys values env pos)) (fun vs s₁ => ∃ kvs, Carries knd vs kvs ∧ s₁.heap = h1 ∧ ∀ h' tk, Fx fr g0 h0 g L h' m ((d, fun o => o.IsDictOf knd (merged [] kvs)) :: led) → Q (.ref d) { s₁ with heap := h', toks := tk }) E { s with heap := h1 }) :
    wpAny (Md w) A (eval (.Dict keys values pos) env) Q E s := by
  have hdn := size_none s.heap
  refine wpAny_Dict_walk (knd := knd) hall hl hn0 hlen ?_
  have Y := X.add (P := fun o => o.IsDictOf knd []) (Hk.push s.heap { cls := .type "dict", data := .dict #[] }) hdn (Heap.get?_push_size _ rfl) (emptyDict_is knd)
  refine wpAny_mono (h _ _ hdn (X.fresh_ne hdn).2.2.1 (dsys W X) Y) (fun vs s₁ q => ?_) fun _ _ e => e
  obtain ⟨kvs, hc, he, hq⟩ := q
  exact ⟨kvs, hc, Heap.dictOf_iff.mpr (by rw [he]; exact Y.at List.mem_cons_self), fun h' hm hs => hq h' _ (Y.turnS (by rw [he] at hs; exact hs) (Heap.dictOf_iff.mp hm))⟩
theorem item_last {value slice : Expr} {l : Addr} {vs : List Value} {v : Value} {u : Tok} (hx : vs.getLast? = some v) (hl : s.heap.IsList l vs.toArray)
    (hs : subscripted slice false (.ref l) (.int (-1) u) = operate [.ref l, .int (-1) u] (getItem (.ref l) (.int (-1) u))) (h : Q v s) : wpAny (Md w) A (subscriptTail value slice (.ref l) (.int (-1) u)) Q E s := by
  have hne : vs ≠ [] := fun q => by subst q; simp at hx
  have hpos := List.length_pos_iff.mpr hne
  refine tail_any hl.typeIs slot_list_getitem.lookup (wpAny_getItem_list_neg hl (by decide) (by simp; omega) (by decide) ?_ h) hs
  rw [List.getLast?_eq_getElem?] at hx
  have e : (-1 + ((vs.toArray.size : Nat) : Int)).toNat = vs.length - 1 := by simp; omega
  rw [e]; simpa using hx
theorem item_tup_at {value slice : Expr} {t : Addr} {vs : List Value} {k : Nat} {v : Value} {u : Tok} (hx : vs[k]? = some v) (hk : k < 1000) (ht : s.heap.IsTuple t vs.toArray)
    (hs : subscripted slice false (.ref t) (.int k u) = operate [.ref t, .int k u] (getItem (.ref t) (.int k u))) (h : Q v s) : wpAny (Md w) A (subscriptTail value slice (.ref t) (.int k u)) Q E s := by
  have hlt := (List.getElem?_eq_some_iff.mp hx).1
  have ht' : IsTup s.heap t vs.toArray := ht
  refine tail_any ht'.typeIs slot_tuple_getitem.lookup (PyProof.Rows.getItem_tuple (j := k) ht' (by omega) (by omega) ?_ (by simpa using hx) h) hs
  show seqIndex? (k : Int) vs.toArray.size = some k
  unfold seqIndex?
  simp only [show ¬ ((k : Int) < 0) from by omega, if_false]
  rw [if_pos (by simp only [Bool.and_eq_true, decide_eq_true_eq, List.size_toArray]; omega)]
  simp
end
/-! the plain law, for any rules -/
/-- the known lengths' sum -/
def lsum (L : List Int) (ks : List Nat) : Int := (ks.map fun k => L.getD k 0).sum
theorem jlen_all {L : List Int} : ∀ {ks : List Nat} {acc : Int}, (∀ k ∈ ks, 0 ≤ L.getD k 0) → jlen L ks acc = acc + lsum L ks
  | [], acc, _ => by simp [jlen, lsum]
  | k :: ks, acc, h => by
    have h1 := h k List.mem_cons_self
    rw [jlen, if_neg (by omega), jlen_all (fun j hj => h j (List.mem_cons_of_mem _ hj))]
    simp only [lsum, List.map_cons, List.sum_cons]; omega
theorem jlen_bad {L : List Int} : ∀ {ks : List Nat} {acc : Int}, (∃ k ∈ ks, L.getD k 0 < 0) → jlen L ks acc = -1
  | [], acc, h => by obtain ⟨k, hk, _⟩ := h; cases hk
  | k :: ks, acc, h => by
    rw [jlen]
    split
    · rfl
    · rename_i h1
      obtain ⟨j, hj, hn⟩ := h
      rcases List.mem_cons.mp hj with rfl | hj
      · exact absurd hn h1
      · exact jlen_bad ⟨j, hj, hn⟩
theorem jlen_pos {L : List Int} {ks : List Nat} (h : 0 ≤ jlen L ks 0) : (∀ k ∈ ks, 0 ≤ L.getD k 0) ∧ jlen L ks 0 = lsum L ks := by
  have hall : ∀ k ∈ ks, 0 ≤ L.getD k 0 := fun k hk => by
    by_cases q : L.getD k 0 < 0
    · rw [jlen_bad ⟨k, hk, q⟩] at h; omega
    · omega
  exact ⟨hall, by rw [jlen_all hall]; omega⟩
theorem lsum_le_mem {L : List Int} : ∀ {ks : List Nat}, (∀ k ∈ ks, 0 ≤ L.getD k 0) → 0 ≤ lsum L ks ∧ ∀ k ∈ ks, L.getD k 0 ≤ lsum L ks
  | [], _ => ⟨by simp [lsum], fun k hk => nomatch hk⟩
  | k :: ks, h => by
    obtain ⟨i0, i1⟩ := lsum_le_mem (L := L) (ks := ks) fun j hj => h j (List.mem_cons_of_mem _ hj)
    have hk := h k List.mem_cons_self
    have e : lsum L (k :: ks) = L.getD k 0 + lsum L ks := by simp [lsum]
    rw [e]
    refine ⟨by omega, fun j hj => ?_⟩
    rcases List.mem_cons.mp hj with rfl | hj
    · omega
    · have := i1 j hj; omega
theorem getD_set_ne {L : List Int} {l k : Nat} {v : Int} (h : k ≠ l) : (L.set l v).getD k 0 = L.getD k 0 := by
  simp [List.getD, Ne.symm h]
theorem getD_set_eq {L : List Int} {l : Nat} {v : Int} (h : l < L.length) : (L.set l v).getD l 0 = v := by
  simp [List.getD, h]
theorem lsum_same {L L' : List Int} {ks : List Nat} (h : ∀ k ∈ ks, L'.getD k 0 = L.getD k 0) : lsum L' ks = lsum L ks := by
  unfold lsum
  congr 1
  exact List.map_congr_left h
theorem lsum_less {L L' : List Int} {l : Nat} : ∀ {ks : List Nat}, (∀ k, k ≠ l → L'.getD k 0 = L.getD k 0) → L'.getD l 0 < L.getD l 0 → l ∈ ks → lsum L' ks < lsum L ks
  | [], _, _, h => nomatch h
  | k :: ks, h1, h2, h => by
    have e : ∀ L : List Int, lsum L (k :: ks) = L.getD k 0 + lsum L ks := fun L => by simp [lsum]
    have le : ∀ ks : List Nat, lsum L' ks ≤ lsum L ks := fun ks => by
      induction ks with
      | nil => simp [lsum]
      | cons j ks ih =>
        have e : ∀ L : List Int, lsum L (j :: ks) = L.getD j 0 + lsum L ks := fun L => by simp [lsum]
        rw [e, e]
        by_cases q : j = l
        · subst q; omega
        · rw [h1 j q]; omega
    rw [e, e]
    by_cases q : k = l
    · subst q; have := le ks; omega
    · rw [h1 k q]
      rcases List.mem_cons.mp h with rfl | h
      · exact absurd rfl q
      · have := lsum_less h1 h2 h; omega

/-! it ends -/
def unk : List Int → Nat
  | [] => 0
  | a :: l => (if a < 0 then 1 else 0) + unk l
def tot : List Int → Nat
  | [] => 0
  | a :: l => a.toNat + tot l
def Lex (L' L : List Int) : Prop := unk L' < unk L ∨ (unk L' = unk L ∧ tot L' < tot L)
theorem set_unk : ∀ {L : List Int} {l : Nat} {v : Int}, l < L.length → 0 ≤ v → L.getD l 0 < 0 → unk (L.set l v) < unk L
  | a :: L, 0, v, _, h1, h2 => by
    simp [List.getD] at h2
    simp [unk, h2]; omega
  | a :: L, l + 1, v, h, h1, h2 => by
    have := set_unk (L := L) (l := l) (v := v) (by simpa using h) h1 (by simpa [List.getD] using h2)
    simp only [List.set, unk]; omega
theorem set_tot : ∀ {L : List Int} {l : Nat} {v : Int}, l < L.length → 0 ≤ v → v < L.getD l 0 → unk (L.set l v) = unk L ∧ tot (L.set l v) < tot L
  | a :: L, 0, v, _, h1, h2 => by
    simp [List.getD] at h2
    simp only [List.set, unk, tot]
    refine ⟨?_, by omega⟩
    rw [if_neg (by omega), if_neg (by omega)]
  | a :: L, l + 1, v, h, h1, h2 => by
    obtain ⟨i1, i2⟩ := set_tot (L := L) (l := l) (v := v) (by simpa using h) h1 (by simpa [List.getD] using h2)
    simp only [List.set, unk, tot]; omega
theorem rstep_lex {L : List Int} {C : List (Nat × Nat)} {i l : Nat} {r : List Nat} : (rstep L C i l r = (L, C, false)) ∨ ((rstep L C i l r).2.2 = true ∧ Lex (rstep L C i l r).1 L) := by
  unfold rstep
  split
  · rename_i h
    right
    refine ⟨rfl, ?_⟩
    show Lex (L.set l (jlen L r 0)) L
    have hl : l < L.length := by
      by_cases q : l < L.length
      · exact q
      · have : L.getD l 0 = 0 := by simp [List.getD, List.getElem?_eq_none (Nat.le_of_not_lt q)]
        omega
    by_cases q : L.getD l 0 < 0
    · exact .inl (set_unk hl h.1 q)
    · have h2 : jlen L r 0 < L.getD l 0 := h.2.resolve_left q
      exact .inr (set_tot hl h.1 h2)
  · exact .inl rfl
theorem Lex.trans {a b c : List Int} (x : Lex a b) (y : Lex b c) : Lex a c := by
  unfold Lex at *; omega
theorem rpass_lex : ∀ {rules : List (Nat × List Nat)} {i : Nat} {L : List Int} {C : List (Nat × Nat)} {b : Bool}, rpass rules i (L, C, b) = (L, C, b) ∨ ((rpass rules i (L, C, b)).2.2 = true ∧ Lex (rpass rules i (L, C, b)).1 L)
  | [], _, _, _, _ => .inl rfl
  | (l, r) :: rest, i, L, C, b => by
    rw [rpass]
    rcases rstep_lex (L := L) (C := C) (i := i) (l := l) (r := r) with h | ⟨h1, h2⟩
    · rw [h, Bool.or_false]
      exact rpass_lex
    · right
      rw [h1, Bool.or_true]
      rcases rpass_lex (rules := rest) (i := i + 1) (L := (rstep L C i l r).1) (C := (rstep L C i l r).2.1) (b := true) with h | ⟨h3, h4⟩
      · rw [h]; exact ⟨rfl, h2⟩
      · exact ⟨h3, h4.trans h2⟩
theorem passes_succ' {rules : List (Nat × List Nat)} {st : List Int × List (Nat × Nat)} : ∀ n, passes rules (pass rules st) n = passes rules st (n + 1)
  | 0 => rfl
  | n + 1 => by show pass rules (passes rules (pass rules st) n) = _; rw [passes_succ' n]; rfl
theorem ends {rules : List (Nat × List Nat)} : ∀ st : List Int × List (Nat × Nat), ∃ N, changes rules (passes rules st N) = false := by
  suffices H : ∀ (a b : Nat) (st : List Int × List (Nat × Nat)), unk st.1 = a → tot st.1 = b → ∃ N, changes rules (passes rules st N) = false from fun st => H _ _ st rfl rfl
  intro a
  induction a using Nat.strongRecOn with
  | ind a iha =>
    intro b
    induction b using Nat.strongRecOn with
    | ind b ihb =>
      intro st ha hb
      cases hc : changes rules st with
      | false => exact ⟨0, hc⟩
      | true =>
        obtain ⟨L, C⟩ := st
        have hl : Lex (pass rules (L, C)).1 L := by
          rcases rpass_lex (rules := rules) (i := 0) (L := L) (C := C) (b := false) with h | ⟨_, h⟩
          · unfold changes at hc; rw [h] at hc; cases hc
          · exact h
        have step : ∃ N, changes rules (passes rules (pass rules (L, C)) N) = false := by
          rcases hl with h | ⟨h1, h2⟩
          · exact iha _ (by rw [← ha]; exact h) _ _ rfl rfl
          · exact ihb _ (by rw [← hb]; exact h2) _ (by rw [h1]; exact ha) rfl
        obtain ⟨N, hN⟩ := step
        exact ⟨N + 1, by rw [← passes_succ']; exact hN⟩

/-- an invariant of the rules' steps holds of all passes -/
theorem passes_inv {rules : List (Nat × List Nat)} {I : List Int → List (Nat × Nat) → Prop} (hs : ∀ L C i l r, rules[i]? = some (l, r) → I L C → I (rstep L C i l r).1 (rstep L C i l r).2.1) {st : List Int × List (Nat × Nat)} (h : I st.1 st.2) : ∀ n, I (passes rules st n).1 (passes rules st n).2
  | 0 => h
  | n + 1 => by
    have ih := passes_inv hs h n
    have go : ∀ (rest : List (Nat × List Nat)) (i : Nat) (L : List Int) (C : List (Nat × Nat)) (b : Bool), (∀ j, rest[j]? = rules[i + j]?) → I L C → I (rpass rest i (L, C, b)).1 (rpass rest i (L, C, b)).2.1 := by
      intro rest
      induction rest with
      | nil => intro i L C b _ h; exact h
      | cons p rest ih =>
        intro i L C b hr h
        obtain ⟨l, r⟩ := p
        rw [rpass]
        refine ih _ _ _ _ (fun j => by have := hr (j + 1); rw [List.getElem?_cons_succ] at this; rw [this]; congr 1; omega) (hs _ _ _ _ _ ?_ h)
        have := hr 0; simpa using this.symm
    exact go rules 0 _ _ _ (fun j => by rw [Nat.zero_add]) ih
/-- where nothing changes no rule is shorter -/
theorem fix_rule {rules : List (Nat × List Nat)} {L : List Int} {C : List (Nat × Nat)} (h : changes rules (L, C) = false) {l : Nat} {r : List Nat} (hm : (l, r) ∈ rules) (hj : 0 ≤ jlen L r 0) : 0 ≤ L.getD l 0 ∧ L.getD l 0 ≤ jlen L r 0 := by
  have go : ∀ (rest : List (Nat × List Nat)) (i : Nat), (rpass rest i (L, C, false)).2.2 = false → (l, r) ∈ rest → 0 ≤ L.getD l 0 ∧ L.getD l 0 ≤ jlen L r 0 := by
    intro rest
    induction rest with
    | nil => intro i _ h; cases h
    | cons p rest ih =>
      intro i h hm
      obtain ⟨l', r'⟩ := p
      have hs : rstep L C i l' r' = (L, C, false) := by
        rcases rstep_lex (L := L) (C := C) (i := i) (l := l') (r := r') with q | ⟨q, _⟩
        · exact q
        · exfalso
          rw [rpass, q, Bool.or_true] at h
          rcases rpass_lex (rules := rest) (i := i + 1) (L := (rstep L C i l' r').1) (C := (rstep L C i l' r').2.1) (b := true) with e | ⟨e, _⟩
          · rw [e] at h; cases h
          · rw [e] at h; cases h
      rcases List.mem_cons.mp hm with e | hm
      · cases e
        unfold rstep at hs
        split at hs
        · have := congrArg (fun q => q.2.2) hs
          cases this
        · omega
      · rw [rpass, hs] at h
        exact ih _ h hm
  exact go rules 0 h hm
/-- the sum of the least lengths, if each has one -/
def ssum (sol : Nat → Option Nat) : List Nat → Option Nat
  | [] => some 0
  | k :: ks => match sol k, ssum sol ks with
    | some a, some b => some (a + b)
    | _, _ => none
theorem ssum_some {sol : Nat → Option Nat} : ∀ {ks : List Nat} {m : Nat}, ssum sol ks = some m → ∀ k ∈ ks, ∃ a, sol k = some a ∧ a ≤ m
  | [], _, _ => fun k hk => nomatch hk
  | j :: ks, m, h => by
    rw [ssum] at h
    cases ha : sol j with
    | none => rw [ha] at h; cases h
    | some a =>
      cases hb : ssum sol ks with
      | none => rw [ha, hb] at h; cases h
      | some b =>
        rw [ha, hb] at h
        have h : a + b = m := Option.some.inj h
        intro k hk
        rcases List.mem_cons.mp hk with rfl | hk
        · exact ⟨a, ha, by omega⟩
        · obtain ⟨c, h1, h2⟩ := ssum_some hb k hk
          exact ⟨c, h1, by omega⟩
theorem ssum_of {sol : Nat → Option Nat} {L : List Int} : ∀ {ks : List Nat}, (∀ k ∈ ks, ∃ a, sol k = some a ∧ (a : Int) = L.getD k 0) → ∃ m, ssum sol ks = some m ∧ (m : Int) = lsum L ks
  | [], _ => ⟨0, rfl, by simp [lsum]⟩
  | j :: ks, h => by
    obtain ⟨a, h1, h2⟩ := h j List.mem_cons_self
    obtain ⟨b, h3, h4⟩ := ssum_of (L := L) (ks := ks) fun k hk => h k (List.mem_cons_of_mem _ hk)
    refine ⟨a + b, by rw [ssum, h1, h3], ?_⟩
    have e : lsum L (j :: ks) = L.getD j 0 + lsum L ks := by simp [lsum]
    rw [e]; omega
theorem ssum_le {sol : Nat → Option Nat} {L : List Int} : ∀ {ks : List Nat}, (∀ k ∈ ks, ∃ a, sol k = some a ∧ (a : Int) ≤ L.getD k 0) → ∃ m, ssum sol ks = some m ∧ (m : Int) ≤ lsum L ks
  | [], _ => ⟨0, rfl, by simp [lsum]⟩
  | j :: ks, h => by
    obtain ⟨a, h1, h2⟩ := h j List.mem_cons_self
    obtain ⟨b, h3, h4⟩ := ssum_le (L := L) (ks := ks) fun k hk => h k (List.mem_cons_of_mem _ hk)
    refine ⟨a + b, by rw [ssum, h1, h3], ?_⟩
    have e : lsum L (j :: ks) = L.getD j 0 + lsum L ks := by simp [lsum]
    rw [e]; omega
/-- the words one behind the other -/
def wcat (word : Nat → List Nat) (ks : List Nat) : List Nat := ks.flatMap word

structure Sol (rules : List (Nat × List Nat)) (n tc : Nat) (sol : Nat → Option Nat) (rank : Nat → Nat) (word : Nat → List Nat) : Prop where
  wf : ∀ p ∈ rules, tc ≤ p.1 ∧ p.1 < n ∧ ∀ j ∈ p.2, j < n
  tn : tc ≤ n
  term : ∀ k, k < tc → sol k = if k ≠ 1 then some 1 else none
  low : ∀ p ∈ rules, ∀ m, ssum sol p.2 = some m → ∃ x, sol p.1 = some x ∧ x ≤ m
  hit : ∀ k, tc ≤ k → k < n → ∀ x, sol k = some x → ∃ r, (k, r) ∈ rules ∧ ssum sol r = some x ∧ ∀ j ∈ r, tc ≤ j → rank j < rank k
  wterm : ∀ k, k < tc → k ≠ 1 → word k = [k]
  wrule : ∀ p ∈ rules, ∀ m, ssum sol p.2 = some m → sol p.1 = some m → wcat word p.2 = word p.1
  wlen : ∀ k, k < n → ∀ m, sol k = some m → (word k).length = m

section
variable {rules : List (Nat × List Nat)} {n tc : Nat} {sol : Nat → Option Nat} {rank : Nat → Nat} {word : Nat → List Nat}
/-- what holds of the lengths as they fall -/
structure Lb (n tc : Nat) (sol : Nat → Option Nat) (L : List Int) : Prop where
  len : L.length = n
  lb : ∀ k, k < n → 0 ≤ L.getD k 0 → ∃ x, sol k = some x ∧ (x : Int) ≤ L.getD k 0
  tm : ∀ k, k < tc → L.getD k 0 = if k ≠ 1 then 1 else -1
theorem initL_get {k : Nat} (h : k < n) : (initL n tc).getD k 0 = if k < tc ∧ k ≠ 1 then 1 else -1 := by
  simp [initL, List.getD, h]
theorem Lb.init (S : Sol rules n tc sol rank word) : Lb n tc sol (initL n tc) where
  len := by simp [initL]
  lb := fun k hk h0 => by
    rw [initL_get hk] at h0 ⊢
    split at h0
    · rename_i h
      refine ⟨1, by rw [S.term k h.1, if_pos h.2], by rw [if_pos h]; omega⟩
    · omega
  tm := fun k hk => by
    rw [initL_get (Nat.lt_of_lt_of_le hk S.tn)]
    by_cases q : k ≠ 1
    · rw [if_pos ⟨hk, q⟩, if_pos q]
    · rw [if_neg (fun h => q h.2), if_neg q]
theorem Lb.step (S : Sol rules n tc sol rank word) {L : List Int} {C : List (Nat × Nat)} {i l : Nat} {r : List Nat} (hm : (l, r) ∈ rules) (X : Lb n tc sol L) : Lb n tc sol (rstep L C i l r).1 := by
  unfold rstep
  split
  · rename_i h
    obtain ⟨h1, h2, h3⟩ := S.wf _ hm
    show Lb n tc sol (L.set l (jlen L r 0))
    have hl : l < L.length := by rw [X.len]; exact h2
    refine ⟨by simp [X.len], fun k hk h0 => ?_, fun k hk => ?_⟩
    · by_cases q : k = l
      · subst q
        rw [getD_set_eq hl]
        obtain ⟨ha, he⟩ := jlen_pos h.1
        obtain ⟨m, hs, hle⟩ := ssum_le (sol := sol) (L := L) (ks := r) fun j hj => X.lb j (h3 j hj) (ha j hj)
        obtain ⟨x, hx, hxm⟩ := S.low _ hm m hs
        exact ⟨x, hx, by rw [he]; omega⟩
      · rw [getD_set_ne q] at h0 ⊢
        exact X.lb k hk h0
    · rw [getD_set_ne (by show k ≠ l; have : tc ≤ l := h1
                          omega)]
      exact X.tm k hk
  · exact X
/-- where nothing changes each length is the least -/
theorem fix_least (S : Sol rules n tc sol rank word) {L : List Int} {C : List (Nat × Nat)} (X : Lb n tc sol L) (h : changes rules (L, C) = false) : ∀ k, k < n → (∀ x, sol k = some x → L.getD k 0 = x) ∧ (sol k = none → L.getD k 0 < 0) := by
  have up : ∀ (d k : Nat), rank k = d → k < n → ∀ x, sol k = some x → L.getD k 0 = x := by
    intro d
    induction d using Nat.strongRecOn with
    | ind d ih =>
      intro k hd hk x hx
      by_cases hc : k < tc
      · rw [S.term k hc] at hx
        rw [X.tm k hc]
        split at hx
        · rename_i q; rw [if_pos q]; have : 1 = x := Option.some.inj hx
          omega
        · cases hx
      · obtain ⟨r, hm, hs, hr⟩ := S.hit k (by omega) hk x hx
        have hwf := (S.wf _ hm).2.2
        have hall : ∀ j ∈ r, ∃ a, sol j = some a ∧ (a : Int) = L.getD j 0 := fun j hj => by
          obtain ⟨a, ha, _⟩ := ssum_some hs j hj
          refine ⟨a, ha, ?_⟩
          by_cases hjc : j < tc
          · have ha2 := ha
            rw [S.term j hjc] at ha2
            rw [X.tm j hjc]
            split at ha2
            · rename_i q; rw [if_pos q]; have : 1 = a := Option.some.inj ha2
              omega
            · cases ha2
          · exact (ih _ (by rw [← hd]; exact hr j hj (by omega)) j rfl (hwf j hj) a ha).symm
        obtain ⟨m, hm1, hm2⟩ := ssum_of hall
        rw [hs] at hm1
        have hm1 : x = m := Option.some.inj hm1
        have hj : jlen L r 0 = lsum L r := by rw [jlen_all (fun j hj => by obtain ⟨a, _, e⟩ := hall j hj; omega)]; omega
        obtain ⟨f1, f2⟩ := fix_rule h hm (by omega)
        obtain ⟨y, hy, hyl⟩ := X.lb k hk f1
        rw [hx] at hy
        have hy : x = y := Option.some.inj hy
        omega
  intro k hk
  refine ⟨up _ k rfl hk, fun hn => ?_⟩
  by_cases q : L.getD k 0 < 0
  · exact q
  · obtain ⟨x, hx, _⟩ := X.lb k hk (by omega)
    rw [hn] at hx; cases hx

/-- the chosen, in their order -/
def Before (C : List (Nat × Nat)) (k l : Nat) : Prop := ∃ C1 C2, C = C1 ++ C2 ∧ k ∈ C1.map (·.1) ∧ l ∉ C1.map (·.1)
structure Ord (rules : List (Nat × List Nat)) (n tc : Nat) (L : List Int) (C : List (Nat × Nat)) : Prop where
  inC : ∀ k, tc ≤ k → k < n → (k ∈ C.map (·.1) ↔ 0 ≤ L.getD k 0)
  ent : ∀ p ∈ C, ∃ r, rules[p.2]? = some (p.1, r) ∧ 0 ≤ jlen L r 0 ∧ jlen L r 0 ≤ L.getD p.1 0 ∧ (jlen L r 0 = L.getD p.1 0 → ∀ k ∈ r, tc ≤ k → Before C k p.1)
theorem before_filter {C : List (Nat × Nat)} {k l l0 i0 : Nat} (h : Before C k l) (hk : k ≠ l0) (hl : l ≠ l0) : Before (C.filter (fun p => decide (p.1 ≠ l0)) ++ [(l0, i0)]) k l := by
  obtain ⟨C1, C2, rfl, h1, h2⟩ := h
  refine ⟨C1.filter (fun p => decide (p.1 ≠ l0)), C2.filter (fun p => decide (p.1 ≠ l0)) ++ [(l0, i0)], by rw [List.filter_append, List.append_assoc], ?_, fun q => ?_⟩
  · obtain ⟨p, hp, rfl⟩ := List.mem_map.mp h1
    exact List.mem_map.mpr ⟨p, List.mem_filter.mpr ⟨hp, by simpa using hk⟩, rfl⟩
  · obtain ⟨p, hp, rfl⟩ := List.mem_map.mp q
    exact h2 (List.mem_map.mpr ⟨p, (List.mem_filter.mp hp).1, rfl⟩)
theorem Ord.step (S : Sol rules n tc sol rank word) {L : List Int} {C : List (Nat × Nat)} {i l : Nat} {r : List Nat} (hm : rules[i]? = some (l, r)) (X : Lb n tc sol L) (O : Ord rules n tc L C) : Ord rules n tc (rstep L C i l r).1 (rstep L C i l r).2.1 := by
  unfold rstep
  split
  · rename_i h
    obtain ⟨w1, w2, w3⟩ := S.wf _ (List.mem_of_getElem? hm)
    show Ord rules n tc (L.set l (jlen L r 0)) (C.filter (fun p => decide (p.1 ≠ l)) ++ [(l, i)])
    have hl : l < L.length := by rw [X.len]; exact w2
    obtain ⟨hall, hsum⟩ := jlen_pos h.1
    generalize hJ : jlen L r 0 = J at *
    have hself : (L.set l J).getD l 0 = J := getD_set_eq hl
    have hoth : ∀ k, k ≠ l → (L.set l J).getD k 0 = L.getD k 0 := fun k q => getD_set_ne q
    have hnot : l ∉ r := fun q => by
      have h1 := hall l q
      have h2 := (lsum_le_mem hall).2 l q
      omega
    refine ⟨fun k hk1 hk2 => ?_, fun p hp => ?_⟩
    · by_cases q : k = l
      · subst q
        rw [hself]
        exact ⟨fun _ => h.1, fun _ => by simp⟩
      · rw [hoth k q, ← O.inC k hk1 hk2]
        simp only [List.map_append, List.mem_append, List.map_cons, List.map_nil, List.mem_singleton, q, or_false, List.mem_map, List.mem_filter, decide_eq_true_eq]
        constructor
        · rintro ⟨p, ⟨hp, _⟩, e⟩; exact ⟨p, hp, e⟩
        · rintro ⟨p, hp, e⟩; exact ⟨p, ⟨hp, by rw [e]; exact q⟩, e⟩
    · rcases List.mem_append.mp hp with hp | hp
      · obtain ⟨hp, hpl⟩ := List.mem_filter.mp hp
        simp only [decide_eq_true_eq] at hpl
        obtain ⟨r', e1, e2, e3, e4⟩ := O.ent p hp
        obtain ⟨ha', hs'⟩ := jlen_pos e2
        have hnn : ∀ k ∈ r', 0 ≤ (L.set l J).getD k 0 := fun k hk => by
          by_cases q : k = l
          · rw [q, hself]; exact h.1
          · rw [hoth k q]; exact ha' k hk
        have hj2 : jlen (L.set l J) r' 0 = lsum (L.set l J) r' := by rw [jlen_all hnn]; omega
        refine ⟨r', e1, by rw [hj2]; exact (lsum_le_mem hnn).1, ?_, ?_⟩
        · rw [hoth _ hpl, hj2]
          by_cases q : l ∈ r'
          · have h0 := ha' l q
            have hlt : J < L.getD l 0 := by omega
            have := lsum_less (L := L) (L' := L.set l J) (l := l) (ks := r') (fun k hk => hoth k hk) (by rw [hself]; exact hlt) q
            omega
          · rw [lsum_same (fun k hk => hoth k (fun e => q (e ▸ hk)))]; omega
        · intro he k hk hkt
          rw [hoth _ hpl, hj2] at he
          by_cases q : l ∈ r'
          · have h0 := ha' l q
            have hlt : J < L.getD l 0 := by omega
            have := lsum_less (L := L) (L' := L.set l J) (l := l) (ks := r') (fun k hk => hoth k hk) (by rw [hself]; exact hlt) q
            omega
          · rw [lsum_same (fun k hk => hoth k (fun e => q (e ▸ hk)))] at he
            exact before_filter (e4 (by omega) k hk hkt) (fun e => q (e ▸ hk)) hpl
      · rw [List.mem_singleton.mp hp]
        have hj2 : jlen (L.set l J) r 0 = J := by
          rw [jlen_all (fun k hk => by rw [hoth k (fun e => hnot (e ▸ hk))]; exact hall k hk), lsum_same (fun k hk => hoth k (fun e => hnot (e ▸ hk)))]; omega
        refine ⟨r, hm, by rw [hj2]; exact h.1, by rw [hj2]; show J ≤ (L.set l J).getD l 0; rw [hself]; exact Int.le_refl _, fun _ k hk hkt => ?_⟩
        refine ⟨C.filter (fun p => decide (p.1 ≠ l)), [(l, i)], rfl, ?_, ?_⟩
        · have := (O.inC k hkt (w3 k hk)).mpr (hall k hk)
          obtain ⟨p, hp, e⟩ := List.mem_map.mp this
          exact List.mem_map.mpr ⟨p, List.mem_filter.mpr ⟨hp, by rw [e]; simpa using fun (e2 : k = l) => hnot (e2 ▸ hk)⟩, e⟩
        · intro q
          obtain ⟨p, hp, e⟩ := List.mem_map.mp q
          have := (List.mem_filter.mp hp).2
          simp only [decide_eq_true_eq] at this
          exact this e
  · exact O
theorem Ord.init (_ : Sol rules n tc sol rank word) : Ord rules n tc (initL n tc) [] where
  inC := fun k h1 h2 => by
    rw [initL_get h2, if_neg (by omega)]
    simp
  ent := fun p hp => nomatch hp
theorem inv_all (S : Sol rules n tc sol rank word) (i : Nat) : Lb n tc sol (passes rules (initL n tc, []) i).1 ∧ Ord rules n tc (passes rules (initL n tc, []) i).1 (passes rules (initL n tc, []) i).2 :=
  passes_inv (I := fun L C => Lb n tc sol L ∧ Ord rules n tc L C) (fun _ _ _ _ _ hm h => ⟨h.1.step S (List.mem_of_getElem? hm), Ord.step S hm h.1 h.2⟩) ⟨Lb.init S, Ord.init S⟩ i

/-! the words -/
theorem jw_all {W : List (Option (List Nat))} : ∀ {ks : List Nat} {acc : List Nat}, (∀ k ∈ ks, W.getD k none = some (word k)) → jw W ks acc = some (acc ++ wcat word ks)
  | [], acc, _ => by simp [jw, wcat]
  | k :: ks, acc, h => by
    rw [jw, h k List.mem_cons_self]
    show jw W ks (acc ++ word k) = _
    rw [jw_all (fun j hj => h j (List.mem_cons_of_mem _ hj))]
    simp [wcat]
theorem jw_none {W : List (Option (List Nat))} : ∀ {ks : List Nat} {acc : List Nat}, (∃ k ∈ ks, W.getD k none = none) → jw W ks acc = none
  | [], _, h => by obtain ⟨k, hk, _⟩ := h; cases hk
  | k :: ks, acc, h => by
    rw [jw]
    cases hx : W.getD k none with
    | none => rfl
    | some x =>
      obtain ⟨j, hj, e⟩ := h
      rcases List.mem_cons.mp hj with rfl | hj
      · rw [hx] at e; cases e
      · exact jw_none ⟨j, hj, e⟩
/-- what a symbol is due -/
def dueG (sol : Nat → Option Nat) (word : Nat → List Nat) (k : Nat) : Option (List Nat) :=
  match sol k with
  | some m => if m ≤ 10000 then some (word k) else none
  | none => none
theorem initW_get {k : Nat} (h : k < n) : (initW n tc).getD k none = if k < tc ∧ k ≠ 1 then some [k] else none := by
  simp [initW, List.getD, h]
theorem getW_set_ne {W : List (Option (List Nat))} {l k : Nat} {v : Option (List Nat)} (h : k ≠ l) : (W.set l v).getD k none = W.getD k none := by
  simp [List.getD, Ne.symm h]
theorem getW_set_eq {W : List (Option (List Nat))} {l : Nat} {v : Option (List Nat)} (h : l < W.length) : (W.set l v).getD l none = v := by
  simp [List.getD, h]
theorem words_at (S : Sol rules n tc sol rank word) {L : List Int} {C : List (Nat × Nat)} (X : Lb n tc sol L) (O : Ord rules n tc L C) (hok : Cok n C) (h : changes rules (L, C) = false) :
    ∀ j, j ≤ C.length → ∀ k, k < n → (wfold rules L (C.take j) (initW n tc)).getD k none = if k < tc ∨ k ∈ (C.take j).map (·.1) then dueG sol word k else none := by
  have F := fix_least S X h
  intro j
  induction j with
  | zero =>
    intro _ k hk
    show (initW n tc).getD k none = _
    rw [initW_get hk]
    by_cases hc : k < tc
    · refine Eq.trans ?_ (if_pos (Or.inl hc)).symm
      unfold dueG
      rw [S.term k hc]
      by_cases q : k ≠ 1
      · rw [if_pos ⟨hc, q⟩, if_pos q]
        show _ = if 1 ≤ 10000 then some (word k) else none
        rw [if_pos (by decide), S.wterm k hc q]
      · rw [if_neg (fun h => q h.2), if_neg q]
    · refine Eq.trans ?_ (if_neg (by simp; omega)).symm
      rw [if_neg (fun h => hc h.1)]
  | succ j ih =>
    intro hj k hk
    have ih := ih (by omega)
    have hp : C[j]? = some C[j] := List.getElem?_eq_getElem (by omega)
    rw [wfold_take hp]
    generalize hW : wfold rules L (C.take j) (initW n tc) = W at *
    have hWl : W.length = n := by rw [← hW, wfold_len, initW_len]
    generalize hpe : C[j] = p at *
    have hpm : p ∈ C := List.mem_of_getElem? hp
    obtain ⟨r, e1, e2, e3, e4⟩ := O.ent p hpm
    have hmem := List.mem_of_getElem? e1
    obtain ⟨w1, w2, w3⟩ := S.wf _ hmem
    obtain ⟨f1, f2⟩ := fix_rule h hmem e2
    have heq : jlen L r 0 = L.getD p.1 0 := by omega
    obtain ⟨ha, hs⟩ := jlen_pos e2
    have tk : (C.take (j + 1)).map (·.1) = (C.take j).map (·.1) ++ [p.1] := by rw [List.take_add_one, hp]; simp
    have hnot : p.1 ∉ (C.take j).map (·.1) := by
      have nd := hok.1
      have e : C = C.take j ++ p :: C.drop (j + 1) := by rw [← hpe, List.getElem_cons_drop, List.take_append_drop]
      rw [e, List.map_append, List.map_cons, List.nodup_append] at nd
      intro q
      exact nd.2.2 _ q _ List.mem_cons_self rfl
    have hsol : ∀ q, q < n → 0 ≤ L.getD q 0 → ∃ a, sol q = some a ∧ (a : Int) = L.getD q 0 := fun q hq h0 => by
      cases e : sol q with
      | none => have := (F q hq).2 e; omega
      | some a => exact ⟨a, rfl, ((F q hq).1 a e).symm⟩
    obtain ⟨a, hsa, hal⟩ := hsol p.1 w2 f1
    have due1 : (wstep rules L W p).getD p.1 none = dueG sol word p.1 := by
      unfold wstep
      by_cases hle : L.getD p.1 0 ≤ 10000
      · rw [if_pos hle, getW_set_eq (by rw [hWl]; exact w2), e1]
        have hall : ∀ q ∈ r, W.getD q none = some (word q) := fun q hq => by
          have hqn := w3 q hq
          obtain ⟨b, hb, hbl⟩ := hsol q hqn (ha q hq)
          have hb1 : b ≤ 10000 := by have := (lsum_le_mem ha).2 q hq; omega
          rw [ih q hqn, if_pos ?_]
          · unfold dueG; rw [hb]; show (if b ≤ 10000 then some (word q) else none) = _; rw [if_pos hb1]
          · by_cases hc : q < tc
            · exact .inl hc
            · right
              obtain ⟨C1, C2, hCC, b1, b2⟩ := e4 heq q hq (by omega)
              have hle2 : C1.length ≤ j := by
                by_cases hlt : j < C1.length
                · exfalso
                  apply b2
                  have : C1[j]? = some p := by rw [← hp, hCC, List.getElem?_append_left hlt]
                  exact List.mem_map.mpr ⟨p, List.mem_of_getElem? this, rfl⟩
                · omega
              have : C.take j = C1 ++ C2.take (j - C1.length) := by rw [hCC, List.take_append, List.take_of_length_le hle2]
              rw [this, List.map_append]
              exact List.mem_append_left _ b1
        show jw W r [] = _
        rw [jw_all hall, List.nil_append]
        obtain ⟨m, hm1, hm2⟩ := ssum_of (sol := sol) (L := L) (ks := r) fun q hq => hsol q (w3 q hq) (ha q hq)
        have hma : m = a := by omega
        subst hma
        rw [S.wrule _ hmem m hm1 hsa]
        unfold dueG
        rw [hsa]
        show _ = if m ≤ 10000 then some (word p.1) else none
        rw [if_pos (by omega)]
      · rw [if_neg hle, ih p.1 w2, if_neg (by rintro (q | q)
                                              · have : tc ≤ p.1 := w1
                                                omega
                                              · exact hnot q)]
        unfold dueG
        rw [hsa]
        show none = if a ≤ 10000 then some (word p.1) else none
        rw [if_neg (by omega)]
    by_cases q : k = p.1
    · subst q
      rw [due1, if_pos (.inr (by rw [tk]; simp))]
    · have e : (wstep rules L W p).getD k none = W.getD k none := by
        unfold wstep
        split
        · exact getW_set_ne q
        · rfl
      rw [e, ih k hk, tk]
      simp [q]
theorem words_fix (S : Sol rules n tc sol rank word) (i : Nat) (h : changes rules (passes rules (initL n tc, []) i) = false) :
    (∀ j, Wsm (wfold rules (passes rules (initL n tc, []) i).1 ((passes rules (initL n tc, []) i).2.take j) (initW n tc))) ∧
    ∀ k, k < n → (wfold rules (passes rules (initL n tc, []) i).1 (passes rules (initL n tc, []) i).2 (initW n tc)).getD k none = dueG sol word k := by
  obtain ⟨X, O⟩ := inv_all S i
  have hok := passes_ok (n := n) (rules := rules) (st := (initL n tc, [])) (fun p hp => (S.wf p hp).2.1) ⟨List.nodup_nil, fun p hp => nomatch hp⟩ i
  generalize passes rules (initL n tc, []) i = st at *
  obtain ⟨L, C⟩ := st
  have F := fix_least (L := L) (C := C) S X h
  have A := words_at S X O hok h
  have sm : ∀ k, k < n → ∀ x, dueG sol word k = some x → x.length ≤ 10000 := fun k hk x hx => by
    unfold dueG at hx
    cases hs : sol k with
    | none => rw [hs] at hx; cases hx
    | some m =>
      rw [hs] at hx
      replace hx : (if m ≤ 10000 then some (word k) else none) = some x := hx
      split at hx
      · rw [← Option.some.inj hx, S.wlen k hk m hs]; assumption
      · cases hx
  have sm' : ∀ j, j ≤ C.length → Wsm (wfold rules L (C.take j) (initW n tc)) := fun j hj k x hx => by
    by_cases hk : k < n
    · rw [A j hj k hk] at hx
      split at hx
      · exact sm k hk x hx
      · cases hx
    · have : (wfold rules L (C.take j) (initW n tc)).getD k none = none := by
        rw [List.getD, List.getElem?_eq_none (by rw [wfold_len, initW_len]; omega)]; rfl
      rw [this] at hx; cases hx
  refine ⟨fun j => ?_, fun k hk => ?_⟩
  · by_cases hj : j ≤ C.length
    · exact sm' j hj
    · have := sm' C.length (Nat.le_refl _)
      rw [List.take_length] at this
      show Wsm (wfold rules L (C.take j) (initW n tc))
      rw [List.take_of_length_le (by omega)]; exact this
  · have := A C.length (Nat.le_refl _) k hk
    rw [List.take_length] at this
    show (wfold rules L C (initW n tc)).getD k none = _
    rw [this]
    split
    · rfl
    · rename_i hc
      rw [not_or] at hc
      have h0 : ¬ 0 ≤ L.getD k 0 := fun q => hc.2 ((O.inC k (by omega) hk).mpr q)
      unfold dueG
      cases hs : sol k with
      | none => rfl
      | some m => have := (F k hk).1 m hs; omega
end
/-! the law's grammars -/
def hd1 (s : Str) : Nat := s.cps.toList.headD 0
def dec1 (s : Str) : Nat := (s.cps.toList.drop 1).foldl (fun a c => a * 10 + (c - 48)) 0
theorem dn_all : ∀ i < 202, (dec1 (dn i) == i && hd1 (dn i) == 100 && (dn i).length ≤ 1000 && Txt.slice (dn i) none (some 1) == ("d" : Str)) = true := by decide +kernel
theorem dn_facts {i : Nat} (h : i < 202) : dec1 (dn i) = i ∧ hd1 (dn i) = 100 ∧ (dn i).length ≤ 1000 ∧ Txt.slice (dn i) none (some 1) = ("d" : Str) := by
  have := dn_all i h
  simp only [Bool.and_eq_true, beq_iff_eq, decide_eq_true_eq] at this
  exact ⟨this.1.1.1, this.1.1.2, this.1.2, this.2⟩
theorem dn_inj {i j : Nat} (hi : i < 202) (hj : j < 202) (h : dn i = dn j) : i = j := by
  have := (dn_facts hi).1
  rw [h, (dn_facts hj).1] at this; exact this.symm
theorem dn_ne {i : Nat} {x : Str} (hi : i < 202) (h : hd1 x ≠ 100) : x ≠ dn i := fun e => h (e ▸ (dn_facts hi).2.1)
theorem dn0 : ("d0" : Str) = dn 0 := by decide +kernel

theorem lenAt_dn {size : Nat} : ∀ {i : Nat}, i ≤ 200 → ∀ p, p < i → lenAt size i (dn (p + 1)) = some (2 ^ (p + 1))
  | 0, _, p, hp => by omega
  | i + 1, hi, p, hp => by
    rw [lenAt_succ]
    unfold setF
    by_cases q : p = i
    · subst q; rw [if_pos rfl]
    · rw [if_neg (fun e => q (by have := dn_inj (by omega) (by omega) e; omega))]
      exact lenAt_dn (by omega) p (by omega)
theorem lenAt_ne {size : Nat} {x : Str} : ∀ {i : Nat}, (∀ p, p < i → x ≠ dn (p + 1)) → lenAt size i x = len0 size x
  | 0, _ => rfl
  | i + 1, h => by
    rw [lenAt_succ]
    unfold setF
    rw [if_neg (h i (by omega))]
    exact lenAt_ne fun p hp => h p (by omega)

def lens2 (size : Nat) : Str → Option Nat := setF (setF (lensOf size) "s" (size + 1)) "$accept" (size + 2)
/-- each name's least length -/
def Fl (size : Nat) (x : Str) : Option Nat := if x = "$end" ∨ x = "$undefined" then some 1 else lens2 size x
theorem Fl_dn {size i : Nat} (h : i ≤ topOf size) : Fl size (dn i) = some (2 ^ i) := by
  have ht := top_lt size
  have n1 : ∀ {x : Str}, hd1 x ≠ 100 → dn i ≠ x := fun hx => (dn_ne (by omega) hx).symm
  unfold Fl lens2 setF
  rw [if_neg (by rintro (e | e) <;> exact n1 (by decide +kernel) e), if_neg (n1 (by decide +kernel)), if_neg (n1 (by decide +kernel))]
  show lensOf size (dn i) = _
  unfold lensOf
  cases i with
  | zero =>
    rw [lenAt_ne (fun p hp e => by have := dn_inj (by omega) (by omega) e; omega), ← dn0]
    rfl
  | succ i => exact lenAt_dn (by omega) i (by omega)
theorem Fl_c {size : Nat} {x : Str} (h : hd1 x ≠ 100) : Fl size x = if x = "$end" ∨ x = "$undefined" then some 1 else (setF (setF (len0 size) "s" (size + 1)) "$accept" (size + 2)) x := by
  have ht := top_lt size
  unfold Fl lens2 setF lensOf
  rw [lenAt_ne fun p hp => dn_ne (by omega) h]
theorem Fl_consts (size : Nat) : Fl size "s" = some (size + 1) ∧ Fl size "$accept" = some (size + 2) ∧ Fl size "a" = some 1 ∧ Fl size "w" = some size ∧ Fl size "more" = some (size + 1) ∧ Fl size "twice" = some (2 * size) ∧ Fl size "either" = some size ∧
    Fl size "nothing" = none ∧ Fl size "error" = none ∧ Fl size "$end" = some 1 ∧ Fl size "$undefined" = some 1 := by
  refine ⟨?_, ?_, ?_, ?_, ?_, ?_, ?_, ?_, ?_, ?_, ?_⟩ <;> (rw [Fl_c (by decide +kernel)]; rfl)

/-- the sum by names -/
def nsum (F : Str → Option Nat) : List Str → Option Nat
  | [] => some 0
  | k :: ks => match F k, nsum F ks with
    | some a, some b => some (a + b)
    | _, _ => none
theorem nsum_cons {F : Str → Option Nat} {k : Str} {ks : List Str} {a b : Nat} (h1 : F k = some a) (h2 : nsum F ks = some b) : nsum F (k :: ks) = some (a + b) := by rw [nsum, h1, h2]
theorem nsum_none {F : Str → Option Nat} : ∀ {ks : List Str} {k : Str}, k ∈ ks → F k = none → nsum F ks = none
  | j :: ks, k, hk, h => by
    rw [nsum]
    rcases List.mem_cons.mp hk with rfl | hk
    · rw [h]
    · rw [nsum_none hk h]
      cases F j <;> rfl
theorem bits_sum {n : Nat} : ∀ m, ((List.range m).filter (fun p => n / 2 ^ p % 2 = 1)).foldr (fun p a => 2 ^ p + a) 0 = n % 2 ^ m := by
  have app : ∀ (a b : List Nat), (a ++ b).foldr (fun p a => 2 ^ p + a) 0 = a.foldr (fun p a => 2 ^ p + a) 0 + b.foldr (fun p a => 2 ^ p + a) 0 := by
    intro a b
    induction a with
    | nil => simp
    | cons x a ih => simp only [List.cons_append, List.foldr_cons, ih]; omega
  intro m
  induction m with
  | zero => simp [Nat.mod_one]
  | succ m ih =>
    rw [bits_succ, app, ih]
    have h := Nat.mod_mul (a := 2 ^ m) (b := 2) (x := n)
    rw [← Nat.pow_succ] at h
    rw [h]
    split
    · rename_i h1
      rw [h1]; simp
    · rename_i h1
      have : n / 2 ^ m % 2 = 0 := by omega
      rw [this]; simp
theorem nsum_bits {size : Nat} : ∀ {bs : List Nat}, (∀ b ∈ bs, b ≤ topOf size) → nsum (Fl size) (bs.map dn) = some (bs.foldr (fun p a => 2 ^ p + a) 0)
  | [], _ => rfl
  | b :: bs, h => by
    rw [List.map_cons, nsum_cons (Fl_dn (h b List.mem_cons_self)) (nsum_bits fun c hc => h c (List.mem_cons_of_mem _ hc))]
    rfl
theorem bits_le_top {size : Nat} : ∀ b ∈ bitsOf size, b ≤ topOf size := by
  have hp : (bitsOf size).Pairwise (· < ·) := List.Pairwise.filter _ List.pairwise_lt_range
  have go : ∀ (l : List Nat), l.Pairwise (· < ·) → ∀ b ∈ l, b ≤ l.getLast?.getD 0 := by
    intro l
    induction l with
    | nil => intro _ b hb; cases hb
    | cons a l ih =>
      intro hp b hb
      rw [List.pairwise_cons] at hp
      cases l with
      | nil => simp at hb; simp [hb]
      | cons c l =>
        have e : (a :: c :: l).getLast?.getD 0 = (c :: l).getLast?.getD 0 := by simp [List.getLast?_cons]
        rw [e]
        rcases List.mem_cons.mp hb with rfl | hb
        · have h1 := hp.1 c List.mem_cons_self
          have h2 := ih hp.2 c List.mem_cons_self
          omega
        · exact ih hp.2 b hb
  exact go _ hp
theorem nsum_form {size : Nat} (h : size < 2 ^ 200) : nsum (Fl size) ((bitsOf size).map dn) = some size := by
  rw [nsum_bits bits_le_top]
  unfold bitsOf
  rw [bits_sum, Nat.mod_eq_of_lt h]

section
variable {size : Nat} {f r : Bool}
def sPP : Str × List Str := ("s", ["w", "d0"])
def d0PP : Str × List Str := ("d0", ["a"])
def termN : List Str := ["$end", "error", "$undefined", "a"]
theorem mem_pp {p : Str × List Str} : p ∈ ppOf size f r ↔ p = sPP ∨ p = d0PP ∨ (∃ i, i < topOf size ∧ p = dPP i) ∨ p ∈ formsPP size ∨ p ∈ othersPP := by
  have h1 : ∀ {l : List (Str × List Str)} {b : Bool}, p ∈ (if b then l.reverse else l) ↔ p ∈ l := fun {l b} => by cases b <;> simp
  have h1' : ∀ {l : List (Str × List Str)} {b : Bool}, p ∈ (if b then l else l.reverse) ↔ p ∈ l := fun {l b} => by cases b <;> simp
  unfold ppOf
  rw [List.mem_cons, h1]
  unfold restPP
  rw [List.mem_append, List.mem_append, h1']
  unfold basePP
  rw [List.mem_cons, List.mem_map]
  have h2 : (∃ a, a ∈ List.range (topOf size) ∧ dPP a = p) ↔ ∃ i, i < topOf size ∧ p = dPP i := ⟨fun ⟨a, h, e⟩ => ⟨a, List.mem_range.mp h, e.symm⟩, fun ⟨a, h, e⟩ => ⟨a, List.mem_range.mpr h, e.symm⟩⟩
  rw [h2, or_assoc, or_assoc]
  rfl
theorem pp_len : (ppOf size f r).length ≤ 210 := by
  have ht := top_lt size
  have h1 : ∀ {l : List (Str × List Str)} {b : Bool}, (if b then l.reverse else l).length = l.length := fun {l b} => by cases b <;> simp
  have h1' : ∀ {l : List (Str × List Str)} {b : Bool}, (if b then l else l.reverse).length = l.length := fun {l b} => by cases b <;> simp
  unfold ppOf
  rw [List.length_cons, h1]
  unfold restPP
  rw [List.length_append, List.length_append, h1']
  simp [basePP, formsPP, othersPP]
  omega
abbrev ok1 (x : Str) : Prop := x ≠ "error" ∧ x.length ≤ 1000 ∧ Txt.slice x none (some 1) ∉ (["", "$", "'"] : List Str)
abbrev ok2 (n : Str) : Prop := n.length ≤ 1000 ∧ Txt.slice n none (some 1) ∉ (["", "$"] : List Str)
theorem dn_ok {i : Nat} (h : i < 202) : ok1 (dn i) ∧ ok2 (dn i) := by
  obtain ⟨_, _, h3, h4⟩ := dn_facts h
  refine ⟨⟨(dn_ne h (by decide +kernel)).symm, h3, by rw [h4]; decide +kernel⟩, h3, by rw [h4]; decide +kernel⟩
theorem pp_ok : ∀ p ∈ ppOf size f r, ok1 p.1 ∧ p.2.length ≤ 500 ∧ ∀ n ∈ p.2, ok2 n := fun p hp => by
  have ht := top_lt size
  have hbl := bits_len size
  have hb : ∀ n ∈ (bitsOf size).map dn, ok2 n := fun n hn => by
    obtain ⟨b, hb, rfl⟩ := List.mem_map.mp hn
    exact (dn_ok (by have := bits_lt hb; omega)).2
  rcases mem_pp.mp hp with rfl | rfl | ⟨i, hi, rfl⟩ | hp | hp
  · exact ⟨by decide +kernel, by decide, by decide +kernel⟩
  · exact ⟨by decide +kernel, by decide, by decide +kernel⟩
  · refine ⟨(dn_ok (by omega)).1, by simp [dPP], fun n hn => ?_⟩
    simp only [dPP, List.mem_cons, List.not_mem_nil, or_false, or_self] at hn
    rw [hn]; exact (dn_ok (by omega)).2
  · unfold formsPP at hp
    simp only [List.mem_cons, List.not_mem_nil, or_false] at hp
    rcases hp with rfl | rfl
    · exact ⟨by show ok1 "w"; decide +kernel, by simp; omega, hb⟩
    · refine ⟨by show ok1 "w"; decide +kernel, by simp; omega, fun n hn => ?_⟩
      rcases List.mem_cons.mp hn with rfl | hn
      · decide +kernel
      · exact hb n hn
  · have H : ∀ p ∈ othersPP, ok1 p.1 ∧ p.2.length ≤ 500 ∧ ∀ n ∈ p.2, ok2 n := by decide +kernel
    exact H p hp

/-- the names with rules -/
theorem lefts_pre : ∀ (pp : List (Str × List Str)) (ls : List Str), ∃ t, pp.foldl leftStep ls = ls ++ t
  | [], ls => ⟨[], by simp⟩
  | p :: pp, ls => by
    obtain ⟨t, ht⟩ := lefts_pre pp (leftStep ls p)
    rw [List.foldl_cons, ht]
    unfold leftStep
    split
    · exact ⟨t, rfl⟩
    · exact ⟨[p.1] ++ t, by simp⟩
theorem lefts_nodup : ∀ (pp : List (Str × List Str)) (ls : List Str), ls.Nodup → (pp.foldl leftStep ls).Nodup
  | [], _, h => h
  | p :: pp, ls, h => by
    rw [List.foldl_cons]
    apply lefts_nodup
    unfold leftStep
    split
    · exact h
    · rename_i hn
      rw [List.nodup_append]
      refine ⟨h, by simp, fun a ha b hb => ?_⟩
      rw [List.mem_singleton.mp hb]
      exact fun e => hn (e ▸ ha)
theorem lefts_first : (leftsOf (ppOf size f r)).getD 0 "" = "s" := by
  unfold leftsOf ppOf
  rw [List.foldl_cons]
  obtain ⟨t, ht⟩ := lefts_pre (if r then (restPP size f).reverse else restPP size f) (leftStep [] ("s", ["w", "d0"]))
  rw [ht]
  rfl
theorem lefts_le : ∀ (pp : List (Str × List Str)) (ls : List Str), (pp.foldl leftStep ls).length ≤ ls.length + pp.length
  | [], ls => by simp
  | p :: pp, ls => by
    rw [List.foldl_cons]
    have := lefts_le pp (leftStep ls p)
    have := (leftStep_len (ls := ls) (p := p)).2
    simp only [List.length_cons]; omega
/-- a name with rules is one of these -/
theorem left_cases {x : Str} (h : x ∈ leftsOf (ppOf size f r)) : x = "s" ∨ (∃ i, i ≤ topOf size ∧ x = dn i) ∨ x ∈ (["w", "more", "twice", "either", "nothing"] : List Str) := by
  obtain ⟨p, hp, rfl⟩ := mem_leftsOf.mp h
  rcases mem_pp.mp hp with rfl | rfl | ⟨i, hi, rfl⟩ | hp | hp
  · exact .inl rfl
  · exact .inr (.inl ⟨0, Nat.zero_le _, dn0⟩)
  · exact .inr (.inl ⟨i + 1, hi, rfl⟩)
  · right; right
    unfold formsPP at hp
    simp only [List.mem_cons, List.not_mem_nil, or_false] at hp
    rcases hp with rfl | rfl <;> exact List.mem_cons_self
  · right; right
    have H : ∀ p ∈ othersPP, p.1 ∈ (["w", "more", "twice", "either", "nothing"] : List Str) := by decide +kernel
    exact H p hp
theorem left_ne {x : Str} (h : x ∈ leftsOf (ppOf size f r)) : x ∉ (["$end", "error", "$undefined", "a", "$accept"] : List Str) := by
  have ht := top_lt size
  rcases left_cases h with rfl | ⟨i, hi, rfl⟩ | h
  · decide +kernel
  · intro q
    have H : ∀ x ∈ (["$end", "error", "$undefined", "a", "$accept"] : List Str), hd1 x ≠ 100 := by decide +kernel
    exact H _ q (dn_facts (by omega)).2.1
  · have H : ∀ x ∈ (["w", "more", "twice", "either", "nothing"] : List Str), x ∉ (["$end", "error", "$undefined", "a", "$accept"] : List Str) := by decide +kernel
    exact H x h
theorem s_left : ("s" : Str) ∈ leftsOf (ppOf size f r) := mem_leftsOf.mpr ⟨sPP, mem_pp.mpr (.inl rfl), rfl⟩
theorem d_left {i : Nat} (h : i ≤ topOf size) : dn i ∈ leftsOf (ppOf size f r) := by
  cases i with
  | zero => exact mem_leftsOf.mpr ⟨d0PP, mem_pp.mpr (.inr (.inl rfl)), dn0.symm⟩
  | succ i => exact mem_leftsOf.mpr ⟨dPP i, mem_pp.mpr (.inr (.inr (.inl ⟨i, h, rfl⟩))), rfl⟩
theorem o_left {x : Str} (h : x ∈ (["w", "more", "twice", "either", "nothing"] : List Str)) : x ∈ leftsOf (ppOf size f r) := by
  have H : ∀ x ∈ (["more", "twice", "either", "nothing"] : List Str), ∃ p ∈ othersPP, x = p.1 := by decide +kernel
  rcases List.mem_cons.mp h with rfl | h
  · exact mem_leftsOf.mpr ⟨("w", (bitsOf size).map dn), mem_pp.mpr (.inr (.inr (.inr (.inl List.mem_cons_self)))), rfl⟩
  · obtain ⟨p, hp, e⟩ := H x h
    exact mem_leftsOf.mpr ⟨p, mem_pp.mpr (.inr (.inr (.inr (.inr hp)))), e⟩
/-- the parts' names -/
theorem part_cases {p : Str × List Str} (hp : p ∈ ppOf size f r) {n : Str} (hn : n ∈ p.2) : n ∈ leftsOf (ppOf size f r) ∨ n = ("error" : Str) ∨ n = ("a" : Str) := by
  have hb : ∀ n ∈ (bitsOf size).map dn, n ∈ leftsOf (ppOf size f r) := fun n hn => by
    obtain ⟨b, hb, rfl⟩ := List.mem_map.mp hn
    exact d_left (bits_le_top b hb)
  rcases mem_pp.mp hp with rfl | rfl | ⟨i, hi, rfl⟩ | hp | hp
  · simp only [sPP, List.mem_cons, List.not_mem_nil, or_false] at hn
    rcases hn with rfl | rfl
    · exact .inl (o_left List.mem_cons_self)
    · exact .inl (by rw [dn0]; exact d_left (Nat.zero_le _))
  · simp only [d0PP, List.mem_cons, List.not_mem_nil, or_false] at hn
    exact .inr (.inr hn)
  · simp only [dPP, List.mem_cons, List.not_mem_nil, or_false, or_self] at hn
    rw [hn]; exact .inl (d_left (by omega))
  · unfold formsPP at hp
    simp only [List.mem_cons, List.not_mem_nil, or_false] at hp
    rcases hp with rfl | rfl
    · exact .inl (hb n hn)
    · rcases List.mem_cons.mp hn with rfl | hn
      · exact .inr (.inr rfl)
      · exact .inl (hb n hn)
  · have H : ∀ p ∈ othersPP, ∀ n ∈ p.2, n ∈ (["w", "more", "twice", "either", "nothing"] : List Str) ∨ n = "error" ∨ n = "a" := by decide +kernel
    exact (H p hp n hn).imp_left o_left
/-- the terminals -/
theorem terms_eq : termsOf (ppOf size f r) = termN := by
  have go1 : ∀ (l ts : List Str), (∀ n ∈ l, n ∈ leftsOf (ppOf size f r) ∨ n = "error" ∨ n = "a") → (ts = ownT ∨ ts = termN) → (l.foldl (termStep1 (leftsOf (ppOf size f r))) ts = ownT ∨ l.foldl (termStep1 (leftsOf (ppOf size f r))) ts = termN) := by
    intro l
    induction l with
    | nil => intro ts _ h; exact h
    | cons n l ih =>
      intro ts hl h
      rw [List.foldl_cons]
      refine ih _ (fun k hk => hl k (List.mem_cons_of_mem _ hk)) ?_
      have hn := hl n List.mem_cons_self
      unfold termStep1
      split
      · rename_i hc
        rcases hn with hn | rfl | rfl
        · exact absurd hn hc.1
        · exfalso
          rcases h with rfl | rfl
          · exact hc.2 (by decide +kernel)
          · exact hc.2 (by decide +kernel)
        · rcases h with rfl | rfl
          · exact .inr rfl
          · exact absurd (by decide +kernel) hc.2
      · exact h
  have go : ∀ (l : List (Str × List Str)) (ts : List Str), (∀ p ∈ l, p ∈ ppOf size f r) → (ts = ownT ∨ ts = termN) → (l.foldl (termStep (leftsOf (ppOf size f r))) ts = ownT ∨ l.foldl (termStep (leftsOf (ppOf size f r))) ts = termN) := by
    intro l
    induction l with
    | nil => intro ts _ h; exact h
    | cons p l ih =>
      intro ts hl h
      rw [List.foldl_cons]
      refine ih _ (fun q hq => hl q (List.mem_cons_of_mem _ hq)) ?_
      exact go1 _ _ (fun n hn => part_cases (hl p List.mem_cons_self) hn) h
  have ha : ("a" : Str) ∈ termsOf (ppOf size f r) := terms_mem.mpr (.inr ⟨⟨d0PP, mem_pp.mpr (.inr (.inl rfl)), List.mem_cons_self⟩, fun q => left_ne q (by decide +kernel)⟩)
  rcases go (ppOf size f r) ownT (fun _ h => h) (.inl rfl) with h | h
  · have h : termsOf (ppOf size f r) = ownT := h
    rw [h] at ha
    exact absurd ha (by decide +kernel)
  · exact h
theorem names_eq : namesOf (ppOf size f r) = ("$end" : Str) :: ("error" : Str) :: ("$undefined" : Str) :: ("a" : Str) :: ("$accept" : Str) :: leftsOf (ppOf size f r) := by
  unfold namesOf; rw [terms_eq]; rfl
theorem names_nodup : (namesOf (ppOf size f r)).Nodup := by
  have e : namesOf (ppOf size f r) = (["$end", "error", "$undefined", "a", "$accept"] : List Str) ++ leftsOf (ppOf size f r) := names_eq
  rw [e, List.nodup_append]
  refine ⟨by decide +kernel, lefts_nodup _ _ .nil, fun a ha b hb q => left_ne hb (q ▸ ha)⟩
theorem names_len : (namesOf (ppOf size f r)).length < 220 := by
  rw [names_eq]
  have h1 := pp_len (size := size) (f := f) (r := r)
  have h2 : (leftsOf (ppOf size f r)).length ≤ 0 + (ppOf size f r).length := lefts_le _ _
  simp only [List.length_cons]; omega
theorem ppOf_ok : PPok (ppOf size f r) where
  ne := by simp [ppOf]
  l1 := fun p hp => (pp_ok p hp).1
  l2 := fun p hp => (pp_ok p hp).2
  ps := by have := pp_len (size := size) (f := f) (r := r); omega
  few := by have := names_len (size := size) (f := f) (r := r); omega
end
def rankN (x : Str) : Nat := if hd1 x = 100 then dec1 x else if x = "w" then 300 else if x = "$accept" then 302 else 301
def wordN (size : Nat) (x : Str) : List Nat :=
  if x = "$end" then [0] else if x = "$undefined" then [2] else if x = "$accept" then List.replicate (size + 1) 3 ++ [0] else List.replicate ((Fl size x).getD 0) 3
def nm (size : Nat) (f r : Bool) (k : Nat) : Str := (namesOf (ppOf size f r)).getD k ""
def solG (size : Nat) (f r : Bool) (k : Nat) : Option Nat := Fl size (nm size f r k)
def rankG (size : Nat) (f r : Bool) (k : Nat) : Nat := rankN (nm size f r k)
def wordG (size : Nat) (f r : Bool) (k : Nat) : List Nat := wordN size (nm size f r k)
section
variable {size : Nat} {f r : Bool}
theorem nm_idx {x : Str} (h : x ∈ namesOf (ppOf size f r)) : nm size f r ((namesOf (ppOf size f r)).idxOf x) = x := by
  have hl := List.idxOf_lt_length_iff.mpr h
  unfold nm
  rw [List.getD, List.getElem?_eq_getElem hl]
  simp
theorem idx_nm {k : Nat} (h : k < (namesOf (ppOf size f r)).length) : (namesOf (ppOf size f r)).idxOf (nm size f r k) = k := by
  unfold nm
  rw [List.getD, List.getElem?_eq_getElem h]
  exact names_nodup.idxOf_getElem k h
theorem nm_mem {k : Nat} (h : k < (namesOf (ppOf size f r)).length) : nm size f r k ∈ namesOf (ppOf size f r) := by
  unfold nm
  rw [List.getD, List.getElem?_eq_getElem h]
  exact List.getElem_mem h
theorem nm_c : nm size f r 0 = "$end" ∧ nm size f r 1 = "error" ∧ nm size f r 2 = "$undefined" ∧ nm size f r 3 = "a" ∧ nm size f r 4 = "$accept" := by
  unfold nm
  rw [names_eq]
  exact ⟨rfl, rfl, rfl, rfl, rfl⟩
theorem nm_left {k : Nat} (h5 : 5 ≤ k) (h : k < (namesOf (ppOf size f r)).length) : nm size f r k ∈ leftsOf (ppOf size f r) := by
  unfold nm
  rw [names_eq] at h ⊢
  obtain ⟨j, rfl⟩ : ∃ j, k = j + 5 := ⟨k - 5, by omega⟩
  simp only [List.length_cons] at h
  have hj : j < (leftsOf (ppOf size f r)).length := by omega
  simp only [List.getD, List.getElem?_cons_succ, List.getElem?_eq_getElem hj]
  exact List.getElem_mem hj
theorem idx_left {x : Str} (h : x ∈ leftsOf (ppOf size f r)) : 5 ≤ (namesOf (ppOf size f r)).idxOf x := by
  have hm : x ∈ namesOf (ppOf size f r) := List.mem_append_right _ h
  have e := nm_idx hm
  have hne := left_ne h
  obtain ⟨c0, c1, c2, c3, c4⟩ := nm_c (size := size) (f := f) (r := r)
  generalize (namesOf (ppOf size f r)).idxOf x = i at *
  by_cases q : 5 ≤ i
  · exact q
  · exfalso
    have : i = 0 ∨ i = 1 ∨ i = 2 ∨ i = 3 ∨ i = 4 := by omega
    apply hne
    rcases this with rfl | rfl | rfl | rfl | rfl <;> rw [← e]
    · rw [c0]; decide +kernel
    · rw [c1]; decide +kernel
    · rw [c2]; decide +kernel
    · rw [c3]; decide +kernel
    · rw [c4]; decide +kernel
theorem ssum_map : ∀ {xs : List Str}, (∀ x ∈ xs, x ∈ namesOf (ppOf size f r)) → ssum (solG size f r) (xs.map (namesOf (ppOf size f r)).idxOf) = nsum (Fl size) xs
  | [], _ => rfl
  | x :: xs, h => by
    rw [List.map_cons, ssum, nsum, ssum_map fun y hy => h y (List.mem_cons_of_mem _ hy)]
    unfold solG
    rw [nm_idx (h x List.mem_cons_self)]
    all_goals rfl
theorem wcat_map : ∀ {xs : List Str}, (∀ x ∈ xs, x ∈ namesOf (ppOf size f r)) → wcat (wordG size f r) (xs.map (namesOf (ppOf size f r)).idxOf) = xs.flatMap (wordN size)
  | [], _ => rfl
  | x :: xs, h => by
    have ih := wcat_map (xs := xs) fun y hy => h y (List.mem_cons_of_mem _ hy)
    unfold wcat at ih ⊢
    rw [List.map_cons, List.flatMap_cons, List.flatMap_cons, ih]
    unfold wordG
    rw [nm_idx (h x List.mem_cons_self)]
/-- each rule by names -/
theorem low_pp (hs : size < 2 ^ 200) {p : Str × List Str} (hp : p ∈ ppOf size f r) {m : Nat} (h : nsum (Fl size) p.2 = some m) : ∃ x, Fl size p.1 = some x ∧ x ≤ m := by
  obtain ⟨cs, ca, c1, cw, cm, ct, ce, cn, cr, _, _⟩ := Fl_consts size
  have h0 : Fl size "d0" = some 1 := by rw [dn0, Fl_dn (Nat.zero_le _)]
  rcases mem_pp.mp hp with rfl | rfl | ⟨i, hi, rfl⟩ | hp | hp
  · rw [sPP, nsum_cons cw (nsum_cons h0 rfl)] at h
    exact ⟨_, cs, by have := Option.some.inj h; omega⟩
  · rw [d0PP, nsum_cons c1 rfl] at h
    exact ⟨_, h0, by have := Option.some.inj h; omega⟩
  · rw [dPP, nsum_cons (Fl_dn (by omega)) (nsum_cons (Fl_dn (by omega)) rfl)] at h
    exact ⟨_, Fl_dn (by omega), by have := Option.some.inj h; rw [Nat.pow_succ]; omega⟩
  · unfold formsPP at hp
    simp only [List.mem_cons, List.not_mem_nil, or_false] at hp
    rcases hp with rfl | rfl
    · rw [nsum_form hs] at h
      exact ⟨_, cw, by have := Option.some.inj h; omega⟩
    · rw [nsum_cons c1 (nsum_form hs)] at h
      exact ⟨_, cw, by have := Option.some.inj h; omega⟩
  · unfold othersPP at hp
    simp only [List.mem_cons, List.not_mem_nil, or_false] at hp
    rcases hp with rfl | rfl | rfl | rfl | rfl | rfl
    · rw [nsum_cons cw (nsum_cons c1 rfl)] at h
      exact ⟨_, cm, by have := Option.some.inj h; omega⟩
    · rw [nsum_cons cw (nsum_cons cw rfl)] at h
      exact ⟨_, ct, by have := Option.some.inj h; omega⟩
    · rw [nsum_none List.mem_cons_self cr] at h; cases h
    · rw [nsum_cons cw rfl] at h
      exact ⟨_, ce, by have := Option.some.inj h; omega⟩
    · rw [nsum_none (List.mem_cons_of_mem _ List.mem_cons_self) cn] at h; cases h
    · rw [nsum_none List.mem_cons_self cr] at h; cases h
theorem rank_dn {i : Nat} (h : i < 202) : rankN (dn i) = i := by
  unfold rankN
  obtain ⟨h1, h2, _⟩ := dn_facts h
  rw [if_pos h2, h1]
theorem hit_pp (hs : size < 2 ^ 200) {x : Str} (hx : x ∈ leftsOf (ppOf size f r)) {v : Nat} (hv : Fl size x = some v) : ∃ p ∈ ppOf size f r, p.1 = x ∧ nsum (Fl size) p.2 = some v ∧ ∀ n ∈ p.2, n ∈ leftsOf (ppOf size f r) → rankN n < rankN x := by
  have ht := top_lt size
  obtain ⟨cs, ca, c1, cw, cm, ct, ce, cn, cr, _, _⟩ := Fl_consts size
  have h0 : Fl size "d0" = some 1 := by rw [dn0, Fl_dn (Nat.zero_le _)]
  have rw1 : rankN "w" = 300 := by decide +kernel
  have ra : ("a" : Str) ∉ leftsOf (ppOf size f r) := fun q => left_ne q (by decide +kernel)
  rcases left_cases hx with rfl | ⟨i, hi, rfl⟩ | hx'
  · have e : v = size + 1 := by rw [cs] at hv; exact (Option.some.inj hv).symm
    subst e
    refine ⟨sPP, mem_pp.mpr (.inl rfl), rfl, by rw [sPP, nsum_cons cw (nsum_cons h0 rfl)], fun n hn _ => ?_⟩
    have H : ∀ n ∈ sPP.2, rankN n < rankN "s" := by decide +kernel
    exact H n hn
  · have e : v = 2 ^ i := by rw [Fl_dn hi] at hv; exact (Option.some.inj hv).symm
    subst e
    cases i with
    | zero =>
      refine ⟨d0PP, mem_pp.mpr (.inr (.inl rfl)), dn0, by rw [d0PP, nsum_cons c1 rfl], fun n hn hl => ?_⟩
      simp only [d0PP, List.mem_cons, List.not_mem_nil, or_false] at hn
      rw [hn] at hl; exact absurd hl ra
    | succ i =>
      refine ⟨dPP i, mem_pp.mpr (.inr (.inr (.inl ⟨i, by omega, rfl⟩))), rfl, ?_, fun n hn _ => ?_⟩
      · rw [dPP, nsum_cons (Fl_dn (by omega)) (nsum_cons (Fl_dn (by omega)) rfl), Nat.pow_succ]
        congr 1; omega
      · simp only [dPP, List.mem_cons, List.not_mem_nil, or_false, or_self] at hn
        rw [hn, rank_dn (by omega), rank_dn (by omega)]; omega
  · have oth : ∀ p ∈ othersPP, p ∈ ppOf size f r := fun p hp => mem_pp.mpr (.inr (.inr (.inr (.inr hp))))
    simp only [List.mem_cons, List.not_mem_nil, or_false] at hx'
    rcases hx' with rfl | rfl | rfl | rfl | rfl
    · have e : v = size := by rw [cw] at hv; exact (Option.some.inj hv).symm
      subst e
      refine ⟨("w", (bitsOf v).map dn), mem_pp.mpr (.inr (.inr (.inr (.inl List.mem_cons_self)))), rfl, nsum_form hs, fun n hn _ => ?_⟩
      obtain ⟨b, hb, rfl⟩ := List.mem_map.mp hn
      have := bits_lt hb
      rw [rank_dn (by omega), rw1]; omega
    · have e : v = size + 1 := by rw [cm] at hv; exact (Option.some.inj hv).symm
      subst e
      refine ⟨("more", ["w", "a"]), oth _ (by decide +kernel), rfl, by rw [nsum_cons cw (nsum_cons c1 rfl)], fun n hn hl => ?_⟩
      simp only [List.mem_cons, List.not_mem_nil, or_false] at hn
      rcases hn with rfl | rfl
      · decide +kernel
      · exact absurd hl ra
    · have e : v = 2 * size := by rw [ct] at hv; exact (Option.some.inj hv).symm
      subst e
      refine ⟨("twice", ["w", "w"]), oth _ (by decide +kernel), rfl, by rw [nsum_cons cw (nsum_cons cw rfl)]; congr 1; omega, fun n hn hl => ?_⟩
      simp only [List.mem_cons, List.not_mem_nil, or_false, or_self] at hn
      rw [hn]; decide +kernel
    · have e : v = size := by rw [ce] at hv; exact (Option.some.inj hv).symm
      subst e
      refine ⟨("either", ["w"]), oth _ (by decide +kernel), rfl, by rw [nsum_cons cw rfl]; rfl, fun n hn hl => ?_⟩
      simp only [List.mem_cons, List.not_mem_nil, or_false] at hn
      rw [hn]; decide +kernel
    · rw [cn] at hv; cases hv
/-- the words of the plain names -/
def plainN (x : Str) : Prop := x ≠ "$end" ∧ x ≠ "$undefined" ∧ x ≠ "$accept"
theorem wordN_plain {x : Str} (h : plainN x) : wordN size x = List.replicate ((Fl size x).getD 0) 3 := by
  unfold wordN
  rw [if_neg h.1, if_neg h.2.1, if_neg h.2.2]
theorem words_plain : ∀ {xs : List Str} {m : Nat}, (∀ x ∈ xs, plainN x) → nsum (Fl size) xs = some m → xs.flatMap (wordN size) = List.replicate m 3
  | [], m, _, h => by have : 0 = m := Option.some.inj h
                      subst this; rfl
  | x :: xs, m, hp, h => by
    rw [nsum] at h
    cases ha : Fl size x with
    | none => rw [ha] at h; cases h
    | some a =>
      cases hb : nsum (Fl size) xs with
      | none => rw [ha, hb] at h; cases h
      | some b =>
        rw [ha, hb] at h
        have h : a + b = m := Option.some.inj h
        rw [List.flatMap_cons, words_plain (fun y hy => hp y (List.mem_cons_of_mem _ hy)) hb, wordN_plain (hp x List.mem_cons_self), ha]
        show List.replicate a 3 ++ List.replicate b 3 = _
        rw [List.replicate_append_replicate, h]
theorem plain_of {x : Str} (h : x ∈ leftsOf (ppOf size f r) ∨ x = "error" ∨ x = "a") : plainN x := by
  rcases h with h | rfl | rfl
  · have := left_ne h
    exact ⟨fun e => this (by rw [e]; decide +kernel), fun e => this (by rw [e]; decide +kernel), fun e => this (by rw [e]; decide +kernel)⟩
  · exact ⟨by decide +kernel, by decide +kernel, by decide +kernel⟩
  · exact ⟨by decide +kernel, by decide +kernel, by decide +kernel⟩
theorem sol_all (hs : size < 2 ^ 200) : Sol (rulesOf (ppOf size f r)) (namesOf (ppOf size f r)).length 4 (solG size f r) (rankG size f r) (wordG size f r) := by
  obtain ⟨c0, c1, c2, c3, c4⟩ := nm_c (size := size) (f := f) (r := r)
  obtain ⟨cs, ca, cA, cw, cm, ct, ce, cn, cr, cE, cU⟩ := Fl_consts size
  have wE : wordN size "$end" = [0] := by unfold wordN; rw [if_pos rfl]
  have wU : wordN size "$undefined" = [2] := by unfold wordN; rw [if_neg (by decide +kernel), if_pos rfl]
  have hlen : 5 ≤ (namesOf (ppOf size f r)).length := by rw [names_eq]; simp
  have hsn : ("s" : Str) ∈ namesOf (ppOf size f r) := List.mem_append_right _ s_left
  have e4 : (termsOf (ppOf size f r)).length = 4 := by rw [terms_eq]; rfl
  have first : rulesOf (ppOf size f r) = (4, [(namesOf (ppOf size f r)).idxOf ("s" : Str), 0]) :: (ppOf size f r).map (ruleOf (namesOf (ppOf size f r))) := by
    unfold rulesOf; rw [e4, lefts_first]
  have parts : ∀ {p : Str × List Str}, p ∈ ppOf size f r → ∀ x ∈ p.2, x ∈ namesOf (ppOf size f r) := fun hp x hx => part_in hp hx
  have s1 : ssum (solG size f r) [(namesOf (ppOf size f r)).idxOf ("s" : Str), 0] = some (size + 1 + (1 + 0)) := by
    rw [ssum, ssum]
    unfold solG
    rw [nm_idx hsn, c0, cs, cE]
    rfl
  refine ⟨?_, by omega, ?_, ?_, ?_, ?_, ?_, ?_⟩
  · intro p hp
    rw [first] at hp
    rcases List.mem_cons.mp hp with rfl | hp
    · refine ⟨Nat.le_refl _, by show 4 < _; omega, fun j hj => ?_⟩
      simp only [List.mem_cons, List.not_mem_nil, or_false] at hj
      rcases hj with rfl | rfl
      · exact List.idxOf_lt_length_iff.mpr hsn
      · omega
    · obtain ⟨q, hq, rfl⟩ := List.mem_map.mp hp
      have hl : q.1 ∈ leftsOf (ppOf size f r) := mem_leftsOf.mpr ⟨q, hq, rfl⟩
      refine ⟨Nat.le_trans (by decide) (idx_left hl), List.idxOf_lt_length_iff.mpr (left_in hq), fun j hj => ?_⟩
      obtain ⟨x, hx, rfl⟩ := List.mem_map.mp hj
      exact List.idxOf_lt_length_iff.mpr (parts hq x hx)
  · intro k hk
    have : k = 0 ∨ k = 1 ∨ k = 2 ∨ k = 3 := by omega
    unfold solG
    rcases this with rfl | rfl | rfl | rfl
    · rw [c0]; exact cE
    · rw [c1]; exact cr
    · rw [c2]; exact cU
    · rw [c3]; exact cA
  · intro p hp m hm
    rw [first] at hp
    rcases List.mem_cons.mp hp with rfl | hp
    · rw [s1] at hm
      refine ⟨size + 2, by show Fl size (nm size f r 4) = _; rw [c4]; exact ca, by have := Option.some.inj hm; omega⟩
    · obtain ⟨q, hq, rfl⟩ := List.mem_map.mp hp
      rw [show (ruleOf (namesOf (ppOf size f r)) q).2 = q.2.map (namesOf (ppOf size f r)).idxOf from rfl, ssum_map (parts hq)] at hm
      obtain ⟨x, hx, hle⟩ := low_pp hs hq hm
      refine ⟨x, ?_, hle⟩
      show Fl size (nm size f r ((namesOf (ppOf size f r)).idxOf q.1)) = _
      rw [nm_idx (left_in hq)]; exact hx
  · intro k hk1 hk2 x hx
    by_cases h4 : k = 4
    · subst h4
      have hx : Fl size (nm size f r 4) = some x := hx
      rw [c4, ca] at hx
      have hx := Option.some.inj hx
      refine ⟨_, by rw [first]; exact List.mem_cons_self, by rw [s1]; congr 1, fun j hj hjt => ?_⟩
      simp only [List.mem_cons, List.not_mem_nil, or_false] at hj
      rcases hj with rfl | rfl
      · show rankN (nm size f r _) < rankN (nm size f r 4)
        rw [nm_idx hsn, c4]; decide +kernel
      · omega
    · have hl := nm_left (size := size) (f := f) (r := r) (k := k) (by omega) hk2
      obtain ⟨p, hp, h1, h2, h3⟩ := hit_pp hs hl hx
      refine ⟨p.2.map (namesOf (ppOf size f r)).idxOf, ?_, by rw [ssum_map (parts hp)]; exact h2, fun j hj hjt => ?_⟩
      · rw [first]
        refine List.mem_cons_of_mem _ (List.mem_map.mpr ⟨p, hp, ?_⟩)
        unfold ruleOf
        rw [h1, idx_nm hk2]
      · obtain ⟨y, hy, rfl⟩ := List.mem_map.mp hj
        show rankN (nm size f r _) < rankN (nm size f r k)
        rw [nm_idx (parts hp y hy)]
        refine h3 y hy ?_
        rcases part_cases hp hy with h | rfl | rfl
        · exact h
        · exfalso
          have e : (namesOf (ppOf size f r)).idxOf ("error" : Str) = 1 := by rw [← c1]; exact idx_nm (by omega)
          omega
        · exfalso
          have e : (namesOf (ppOf size f r)).idxOf ("a" : Str) = 3 := by rw [← c3]; exact idx_nm (by omega)
          omega
  · intro k hk h1
    have : k = 0 ∨ k = 2 ∨ k = 3 := by omega
    unfold wordG
    rcases this with rfl | rfl | rfl
    · rw [c0]; exact wE
    · rw [c2]; exact wU
    · rw [c3, wordN_plain (by exact ⟨by decide +kernel, by decide +kernel, by decide +kernel⟩), cA]; rfl
  · intro p hp m hm hx
    rw [first] at hp
    rcases List.mem_cons.mp hp with rfl | hp
    · show wcat (wordG size f r) [_, 0] = wordN size (nm size f r 4)
      rw [c4]
      unfold wcat wordG
      rw [List.flatMap_cons, List.flatMap_cons, nm_idx hsn, c0, wordN_plain (by exact ⟨by decide +kernel, by decide +kernel, by decide +kernel⟩), cs]
      rfl
    · obtain ⟨q, hq, rfl⟩ := List.mem_map.mp hp
      rw [show (ruleOf (namesOf (ppOf size f r)) q).2 = q.2.map (namesOf (ppOf size f r)).idxOf from rfl] at hm ⊢
      rw [ssum_map (parts hq)] at hm
      rw [wcat_map (parts hq), words_plain (fun x hx => plain_of (part_cases hq hx)) hm]
      have hx : Fl size (nm size f r ((namesOf (ppOf size f r)).idxOf q.1)) = some m := hx
      show _ = wordN size (nm size f r ((namesOf (ppOf size f r)).idxOf q.1))
      rw [nm_idx (left_in hq)] at hx ⊢
      rw [wordN_plain (plain_of (.inl (mem_leftsOf.mpr ⟨q, hq, rfl⟩))), hx]
      rfl
  · intro k hk m hm
    have hm : Fl size (nm size f r k) = some m := hm
    unfold wordG
    by_cases h0 : k = 0
    · subst h0; rw [c0] at hm ⊢; rw [cE] at hm; rw [← Option.some.inj hm, wE]; rfl
    by_cases h2 : k = 2
    · subst h2; rw [c2] at hm ⊢; rw [cU] at hm; rw [← Option.some.inj hm, wU]; rfl
    by_cases h4 : k = 4
    · subst h4; rw [c4] at hm ⊢; rw [ca] at hm; rw [← Option.some.inj hm]
      show (List.replicate (size + 1) 3 ++ [0]).length = _
      simp
    · have hp : plainN (nm size f r k) := by
        refine plain_of (size := size) (f := f) (r := r) ?_
        by_cases h5 : 5 ≤ k
        · exact .inl (nm_left h5 hk)
        · have : k = 1 ∨ k = 3 := by omega
          rcases this with rfl | rfl
          · exact .inr (.inl c1)
          · exact .inr (.inr c3)
      rw [wordN_plain hp, hm]
      simp
end
/-- what a name is due -/
def dueN (size : Nat) (x : Str) : Option (List Nat) :=
  match Fl size x with
  | some m => if m ≤ 10000 then some (wordN size x) else none
  | none => none
def due1 (size : Nat) (x : Str) : Option (List Nat) :=
  match lens2 size x with
  | some n => if n ≤ 10000 then some (List.replicate n 3) else none
  | none => none
def due2 (size : Nat) (x : Str) : Option (List Nat) :=
  if x = "$accept" then (match due1 size x with | none => none | some _ => some (List.replicate (size + 1) 3 ++ [0])) else due1 size x
theorem dueG_dueN {size : Nat} {f r : Bool} (k : Nat) : dueG (solG size f r) (wordG size f r) k = dueN size (nm size f r k) := rfl
theorem lens_w (size : Nat) : lensOf size "w" = some size := by
  have ht := top_lt size
  unfold lensOf
  rw [lenAt_ne fun p hp => dn_ne (by omega) (by decide +kernel)]
  rfl
theorem lens2_accept (size : Nat) : lens2 size "$accept" = some (size + 2) := by unfold lens2 setF; rw [if_pos rfl]
theorem due_low {size : Nat} {f r : Bool} {i : Nat} (h : i < 3) : dueN size (nm size f r i) = if nm size f r i = "error" then none else some [i] := by
  obtain ⟨c0, c1, c2, c3, c4⟩ := nm_c (size := size) (f := f) (r := r)
  obtain ⟨cs, ca, cA, cw, cm, ct, ce, cn, cr, cE, cU⟩ := Fl_consts size
  have : i = 0 ∨ i = 1 ∨ i = 2 := by omega
  unfold dueN
  rcases this with rfl | rfl | rfl
  · rw [c0, cE, if_neg (by decide +kernel)]
    show (if 1 ≤ 10000 then some (wordN size "$end") else none) = _
    rw [if_pos (by decide)]
    unfold wordN; rw [if_pos rfl]
  · rw [c1, cr, if_pos rfl]
  · rw [c2, cU, if_neg (by decide +kernel)]
    show (if 1 ≤ 10000 then some (wordN size "$undefined") else none) = _
    rw [if_pos (by decide)]
    unfold wordN; rw [if_neg (by decide +kernel), if_pos rfl]
theorem due_high {size : Nat} {f r : Bool} {i : Nat} (h3 : 3 ≤ i) (h : i < (namesOf (ppOf size f r)).length) : dueN size (nm size f r i) = due2 size (nm size f r i) := by
  have hne : nm size f r i ≠ "$end" ∧ nm size f r i ≠ "$undefined" := by
    by_cases h5 : 5 ≤ i
    · have hl := nm_left h5 h
      have := left_ne hl
      exact ⟨fun e => this (by rw [e]; decide +kernel), fun e => this (by rw [e]; decide +kernel)⟩
    · obtain ⟨c0, c1, c2, c3, c4⟩ := nm_c (size := size) (f := f) (r := r)
      have : i = 3 ∨ i = 4 := by omega
      rcases this with rfl | rfl
      · rw [c3]; exact ⟨by decide +kernel, by decide +kernel⟩
      · rw [c4]; exact ⟨by decide +kernel, by decide +kernel⟩
  generalize nm size f r i = x at hne
  have e : Fl size x = lens2 size x := by unfold Fl; rw [if_neg (fun q => q.elim hne.1 hne.2)]
  have e2 : wordN size x = if x = "$accept" then List.replicate (size + 1) 3 ++ [0] else List.replicate ((lens2 size x).getD 0) 3 := by
    unfold wordN; rw [if_neg hne.1, if_neg hne.2, e]
  unfold dueN due2 due1
  rw [e, e2]
  by_cases q : x = "$accept"
  · rw [if_pos q, if_pos q]
    cases lens2 size x with
    | none => rfl
    | some n =>
      dsimp only
      by_cases h : n ≤ 10000
      · rw [if_pos h, if_pos h]
      · rw [if_neg h, if_neg h]
  · rw [if_neg q, if_neg q]
    cases lens2 size x with
    | none => rfl
    | some n => rfl
theorem due1_len {size : Nat} {x : Str} {n : Nat} (h : lens2 size x = some n) (hn : n ≤ 10000) : due1 size x = some (List.replicate n 3) := by
  unfold due1; rw [h]; show (if n ≤ 10000 then _ else _) = _; rw [if_pos hn]
theorem due1_long {size : Nat} {x : Str} {n : Nat} (h : lens2 size x = some n) (hn : ¬ n ≤ 10000) : due1 size x = none := by
  unfold due1; rw [h]; show (if n ≤ 10000 then _ else _) = _; rw [if_neg hn]
theorem due1_none {size : Nat} {x : Str} (h : lens2 size x = none) : due1 size x = none := by unfold due1; rw [h]
theorem due2_other {size : Nat} {x : Str} (h : x ≠ "$accept") : due2 size x = due1 size x := if_neg h
theorem due2_none {size : Nat} {x : Str} (h : due1 size x = none) : due2 size x = none := by
  unfold due2; rw [h]; split <;> rfl
theorem due2_accept {size : Nat} {ks : List Nat} (h : due1 size "$accept" = some ks) : size + 2 ≤ 10000 ∧ due2 size "$accept" = some (List.replicate (size + 1) 3 ++ [0]) := by
  constructor
  · unfold due1 at h
    rw [lens2_accept] at h
    by_cases q : size + 2 ≤ 10000
    · exact q
    · replace h : (if size + 2 ≤ 10000 then some (List.replicate (size + 2) 3) else none) = some ks := h
      rw [if_neg q] at h; cases h
  · unfold due2; rw [if_pos rfl, h]
/-- rows -/
def rowF (size : Nat) (acc : Option (List Nat)) (x : Str) : Option (List Nat) :=
  match acc, dueN size x with
  | some a, some b => some (a ++ b)
  | _, _ => none
theorem rowF_none {size : Nat} {x : Str} : rowF size none x = none := rfl
theorem rowF_fold_none {size : Nat} : ∀ {xs : List Str}, xs.foldl (rowF size) none = none
  | [] => rfl
  | x :: xs => by rw [List.foldl_cons, rowF_none, rowF_fold_none]
def row0 (size : Nat) (xs : List Str) : Option (List Nat) := if none ∉ xs.map (dueN size) then some [] else none
theorem row0_some {size : Nat} {xs : List Str} {i : Nat} {a : List Nat} (h : (xs.take i).foldl (rowF size) (row0 size xs) = some a) : ∀ x ∈ xs, dueN size x ≠ none := by
  intro x hx e
  unfold row0 at h
  rw [if_neg (fun q => q (List.mem_map.mpr ⟨x, hx, e⟩)), rowF_fold_none] at h
  cases h
theorem jw_row {size : Nat} {W : List (Option (List Nat))} {idx : Str → Nat} : ∀ {xs : List Str} {acc : List Nat}, (∀ x ∈ xs, W.getD (idx x) none = dueN size x) → jw W (xs.map idx) acc = xs.foldl (rowF size) (some acc)
  | [], acc, _ => rfl
  | x :: xs, acc, h => by
    have hx := h x List.mem_cons_self
    rw [List.map_cons, jw, List.foldl_cons, hx]
    cases e : dueN size x with
    | none =>
      have : rowF size (some acc) x = none := by unfold rowF; rw [e]
      rw [this, rowF_fold_none]
    | some b =>
      have : rowF size (some acc) x = some (acc ++ b) := by unfold rowF; rw [e]
      rw [this]
      exact jw_row fun y hy => h y (List.mem_cons_of_mem _ hy)
theorem fold_row_none {size : Nat} : ∀ {xs : List Str} {acc : Option (List Nat)}, (∃ x ∈ xs, dueN size x = none) → xs.foldl (rowF size) acc = none
  | [], _, h => by obtain ⟨x, hx, _⟩ := h; cases hx
  | x :: xs, acc, h => by
    rw [List.foldl_cons]
    obtain ⟨y, hy, e⟩ := h
    rcases List.mem_cons.mp hy with rfl | hy
    · have : rowF size acc y = none := by unfold rowF; rw [e]; cases acc <;> rfl
      rw [this, rowF_fold_none]
    · exact fold_row_none ⟨y, hy, e⟩
theorem jw_row0 {size : Nat} {W : List (Option (List Nat))} {idx : Str → Nat} {xs : List Str} (h : ∀ x ∈ xs, W.getD (idx x) none = dueN size x) : jw W (xs.map idx) [] = xs.foldl (rowF size) (row0 size xs) := by
  rw [jw_row h]
  unfold row0
  by_cases q : none ∈ xs.map (dueN size)
  · obtain ⟨x, hx, e⟩ := List.mem_map.mp q
    rw [fold_row_none ⟨x, hx, e⟩, fold_row_none ⟨x, hx, e⟩]
  · rw [if_pos q]
theorem dueN_len {size : Nat} {f r : Bool} (hs : size < 2 ^ 200) {x : Str} (hx : x ∈ namesOf (ppOf size f r)) {ks : List Nat} (h : dueN size x = some ks) : ks.length ≤ 10000 := by
  have e := nm_idx hx
  have hl := List.idxOf_lt_length_iff.mpr hx
  have S := sol_all (f := f) (r := r) hs
  unfold dueN at h
  cases hF : Fl size x with
  | none => rw [hF] at h; cases h
  | some m =>
    rw [hF] at h
    replace h : (if m ≤ 10000 then some (wordN size x) else none) = some ks := h
    split at h
    · have := S.wlen _ hl m (by show Fl size (nm size f r _) = _; rw [e]; exact hF)
      unfold wordG at this
      rw [e] at this
      rw [← Option.some.inj h, this]; assumption
    · cases h
section
variable {w : World} {A : Around} {E : Value → Shared → Prop} {s : Shared} {mg mb : Str → Option Value} {env : Env} {sc : Scope} {cl : List (Str × Addr)}
variable {fr : List Addr} {g0 h0 g : Heap} {L : Addr} {h h' : Heap} {m : Str → Option Value} {led : List (Addr × (Obj → Prop))} {v : Value} {x y : Str}
/-- the ledger's first two turned -/
theorem Fx.turn2 {a b : Addr} {P P' R R' : Obj → Prop} (X : Fx fr g0 h0 g L h m ((a, P) :: (b, R) :: led)) (hk : ∀ c o, c ≠ a → c ≠ b → h.get? c = some o → h'.get? c = some o) (ha : ∃ o, h'.get? a = some o ∧ P' o) (hb : ∃ o, h'.get? b = some o ∧ R' o) :
    Fx fr g0 h0 g L h' m ((a, P') :: (b, R') :: led) := by
  obtain ⟨_, hL, hg, ha0⟩ := X.led_ (a, P) List.mem_cons_self
  obtain ⟨_, hL2, hg2, hb0⟩ := X.led_ (b, R) (List.mem_cons_of_mem _ List.mem_cons_self)
  have nd := X.nd
  simp only [List.map_cons, List.nodup_cons, List.mem_cons, not_or] at nd
  refine ⟨⟨X.old, fun c o e => hk c o (fun q => by rw [q, hg] at e; cases e) (fun q => by rw [q, hg2] at e; cases e) (X.now c o e), X.new, fun c o hc e => ?_, fun c o e => ?_⟩, X.ns.at' fun o e => hk L o (Ne.symm hL) (Ne.symm hL2) e, X.off, X.off0, fun q hq => ?_, X.nd⟩
  · refine hk c o (fun q => ?_) (fun q => ?_) (X.keep c o hc e)
    · rcases ha0 with h | h
      · rw [q, h] at e; cases e
      · exact hc (q ▸ h)
    · rcases hb0 with h | h
      · rw [q, h] at e; cases e
      · exact hc (q ▸ h)
  · obtain ⟨o', ho'⟩ := X.live c o e
    by_cases q : c = a
    · obtain ⟨o2, h2, _⟩ := ha; exact ⟨o2, q ▸ h2⟩
    by_cases q2 : c = b
    · obtain ⟨o2, h2, _⟩ := hb; exact ⟨o2, q2 ▸ h2⟩
    · exact ⟨o', hk c o' q q2 ho'⟩
  · rcases List.mem_cons.mp hq with rfl | hq
    · exact ⟨ha, hL, hg, ha0⟩
    rcases List.mem_cons.mp hq with rfl | hq
    · exact ⟨hb, hL2, hg2, hb0⟩
    · obtain ⟨⟨o, e, hp⟩, r⟩ := X.led_ q (List.mem_cons_of_mem _ (List.mem_cons_of_mem _ hq))
      exact ⟨⟨o, hk q.1 o (fun z => nd.1.2 (List.mem_map.mpr ⟨q, hq, z⟩)) (fun z => nd.2.1 (List.mem_map.mpr ⟨q, hq, z⟩)) e, hp⟩, r⟩
def isEn (it : Addr) (i : Int) (o : Obj) : Prop := ∃ old, o = { cls := .type "enumerate", dict := none, data := .fields #[.none, .bool false, .ref it, rawInt i, .none, old], slots := #[] }
def isLi (l : Addr) (i : Nat) (o : Obj) : Prop := o.cls = .type "list_iterator" ∧ o.data = .fields #[.ref l, .int i 0]
theorem toEnum {e it : Addr} {i : Int} (x : ∃ o, h.get? e = some o ∧ isEn it i o) : ∃ old, IsEnum h e it i old := by
  obtain ⟨o, ho, old, rfl⟩ := x; exact ⟨old, ho⟩
theorem ofEnum {e it : Addr} {i : Int} {old : Value} (x : IsEnum h e it i old) : ∃ o, h.get? e = some o ∧ isEn it i o := ⟨_, x, old, rfl⟩
/-- enumerate(l) -/
theorem enum_new {l : Addr} {vs : List Value} {Q : Value → Shared → Prop} (X : Fx fr g0 h0 g L s.heap m led) (hl : g.IsList l vs.toArray)
    (hQ : ∀ e it h', s.heap.get? e = none → s.heap.get? it = none → Fx fr g0 h0 g L h' m ((e, isEn it 0) :: (it, isLi l 0) :: led) → Q (.ref e) { s with heap := h' }) :
    wpAny (Md w) A (call (.type "enumerate") [.ref l]) Q E s := by
  refine call_enumerate_list (Heap.IsList.hk hl X.now) (fun h' he hit hsz hk => ?_)
  have hs := size_none s.heap
  have hs1 : s.heap.get? (s.heap.objs.size + 1) = none := Heap.get?_none_of_le (Nat.le_succ _)
  have Y := X.keeps (h' := h') hk
  obtain ⟨a1, a2, a3, a4⟩ := X.fresh_ne hs
  obtain ⟨b1, b2, b3, b4⟩ := X.fresh_ne hs1
  refine hQ _ s.heap.objs.size h' hs1 hs ?_
  have Z := Y.more (led' := [(s.heap.objs.size + 1, isEn s.heap.objs.size 0), (s.heap.objs.size, isLi l 0)]) (fun p hp => by
    simp only [List.mem_cons, List.not_mem_nil, or_false] at hp
    rcases hp with rfl | rfl
    · exact ⟨ofEnum he, b1, b2, b3, b4⟩
    · exact ⟨hit, a1, a2, a3, a4⟩) (by simp)
  exact Z.perm (List.perm_append_comm (l₁ := [_, _]))
theorem for_enum {k : Nat} {px py pt : Pos} {x1 : Nat} {body : List Stmt} {e it l : Addr} {vs : List Value} {Q : Flow → Shared → Prop} {R : Result → Shared → Prop}
    (J : Nat → Heap → (Str → Option Value) → List (Addr × (Obj → Prop)) → Prop) (rm : Rm A k) (he : EnvIs env sc L cl) (hx : sc.names.lookup x = some .local) (hy : sc.names.lookup y = some .local)
    (X : Fx fr g0 h0 g L s.heap m ((e, isEn it 0) :: (it, isLi l 0) :: led)) (hl : g.IsList l vs.toArray) (hef : e ∉ fr) (hif : it ∉ fr) (hj : J 0 g m led)
    (turn : ∀ i t v g' m' led' h tk E', vs[i]? = some v → Hk g g' → J i g' m' led' → Fx fr g0 h0 g' L h (mset (mset m' x (.int (i : Nat) t)) y v) ((e, isEn it ((i + 1 : Nat) : Int)) :: (it, isLi l (i + 1)) :: led') →
      wpAny (Md w) A (execs body env) (TurnPost fr g0 h0 L e (isEn it ((i + 1 : Nat) : Int)) g' (fun g m led => ∃ led0, led = (it, isLi l (i + 1)) :: led0 ∧ J (i + 1) g m led0) Q s) E' { s with heap := h, toks := tk })
    (done : ∀ g' m' led' h tk, Hk g g' → J vs.length g' m' led' → Fx fr g0 h0 g' L h m' led' → Q .next { s with heap := h, toks := tk })
    (hR : ∀ f s', Q f s' → R (.ok f) s') :
    wpAny (Md w) A (pyIter (.ref e)) (fun it' s₂ => codeAny (Md w) A (.forLoop (.Tuple [.Name x px, .Name y py] x1 pt) it' body [] env) R s₂) E s := by
  obtain ⟨old0, he0⟩ := toEnum (X.at List.mem_cons_self)
  refine wpAny_pyIter_enum he0 ?_
  refine codeAny_forLoop_any (fun k s' => ∃ h tk g' m' led' i, s' = { s with heap := h, toks := tk } ∧ i ≤ vs.length ∧ k = vs.length + 1 - i ∧ Hk g g' ∧ Fx fr g0 h0 g' L h m' ((e, isEn it ((i : Nat) : Int)) :: (it, isLi l i) :: led') ∧ J i g' m' led') ?_ (vs.length + 1)
    ⟨s.heap, s.toks, g, m, led, 0, rfl, Nat.zero_le _, rfl, Hk.refl _, X, hj⟩
  rintro k s' ⟨H, tk, g', m', led', i, rfl, hi, rfl, hk', X', hJ⟩
  obtain ⟨old, hen⟩ := toEnum (X'.at List.mem_cons_self)
  have hit : H.IsListIter it l i := X'.at (a := it) (P := isLi l i) (by simp)
  have hlg := Heap.IsList.hk hl hk'
  have hlH : H.IsList l vs.toArray := Heap.IsList.hk hlg X'.now
  have nd := X'.nd
  simp only [List.map_cons, List.nodup_cons, List.mem_cons, not_or] at nd
  have hei : e ≠ it := nd.1.1
  have offe := (X'.led_ _ List.mem_cons_self).2.2.1
  have offi := (X'.led_ (it, isLi l i) (by simp)).2.2.1
  have ne_of : ∀ {c : Addr}, (∃ o, g'.get? c = some o) → c ≠ e ∧ c ≠ it := fun ⟨o, ho⟩ => ⟨fun q => (by subst q; rw [offe] at ho; cases ho), fun q => (by subst q; rw [offi] at ho; cases ho)⟩
  have hl2 := ne_of (c := l) (by obtain ⟨o, ho, _⟩ := hlg; exact ⟨o, ho⟩)
  cases hv : vs[i]? with
  | none =>
    have hin : i = vs.length := by have := List.getElem?_eq_none_iff.mp hv; omega
    subst hin
    refine wpAny_pyNext_enum_end rm.hh hen hit hlH (by simpa using hv) fun h₁ he₁ => wpAny_execs_nil ?_
    have Y1 := X'.swap.lose hif (h' := h₁) (fun b o hb x => he₁ b o hb x)
    have Y2 := Y1.drop
    exact hR _ _ (done g' m' led' h₁ tk hk' hJ Y2)
  | some v =>
    have hlt : i < vs.length := (List.getElem?_eq_some_iff.mp hv).1
    have heH : e < H.objs.size := Heap.lt_size hen
    refine wpAny_pyNext_enum_item hen hit hlH (by simpa using hv) hei fun h₁ heo hit₁ ht₁ hz₁ hk₁ => ?_
    refine wpAny_letOwnedTupleGo_enum heo fun h₂ he₂ hs₂ => ?_
    replace hs₂ : Heap.SameBut e h₁ h₂ := hs₂
    have ht₂ : h₂.IsTuple H.objs.size #[.int i tk, v] := ⟨_, (hs₂.2 _ (Nat.ne_of_gt heH)).trans ht₁, rfl, _, rfl⟩
    have hz₂ : h₂.objs.size = H.objs.size + 1 := hs₂.1.trans hz₁
    refine wpAny_assign_Tuple rm.hh ht₂ rfl rfl fun h₃ hx₃ => ?_
    replace hx₃ : Heap.ExtBut h₂.objs.size h₂ h₃ := hx₃
    have old₃ : ∀ b o, b < H.objs.size → h₂.get? b = some o → h₃.get? b = some o := fun b o hb x => hx₃ b o (by rw [hz₂]; exact Nat.ne_of_lt (Nat.lt_succ_of_lt hb)) x
    have hk₃ : ∀ b o, b ≠ e → b ≠ it → H.get? b = some o → h₃.get? b = some o := fun b o hbe hbi x => old₃ b o (Heap.lt_size x) ((hs₂.2 b hbe).trans (hk₁ b o hbe hbi x))
    have e1 : ((i : Int) + 1) = ((i + 1 : Nat) : Int) := by omega
    have X₃ : Fx fr g0 h0 g' L h₃ m' ((e, isEn it ((i + 1 : Nat) : Int)) :: (it, isLi l (i + 1)) :: led') := X'.turn2 hk₃ (ofEnum (by rw [← e1]; exact old₃ e _ heH he₂)) (by
      obtain ⟨o, ho, hp⟩ := hit₁
      obtain ⟨o', ho', _⟩ := hit
      exact ⟨o, old₃ it o (Heap.lt_size ho') ((hs₂.2 it hei.symm).trans ho), hp⟩)
    show wpAny _ A (assignInOrder [assign (.Name x px) env, assign (.Name y py) env] [.int i tk, v]) _ _ _
    refine wpAny_assignInOrder_more (wpAny_assign_Name (stv X₃ he hx fun h₄ X₄ => wpAny_assignInOrder_more (wpAny_assign_Name (stv X₄ he hy fun h₅ X₅ => wpAny_assignInOrder_none ?_))))
    refine wpAny_mono (turn i tk v g' m' led' h₅ _ _ hv hk' hJ X₅) (fun f s₃ q => ?_) fun _ _ e => e
    have next : TurnEnd fr g0 h0 L e (isEn it ((i + 1 : Nat) : Int)) g' (fun g m led => ∃ led0, led = (it, isLi l (i + 1)) :: led0 ∧ J (i + 1) g m led0) s s₃ → ∃ k', k' < vs.length + 1 - i ∧ ∃ h tk g' m' led' i, s₃ = { s with heap := h, toks := tk } ∧ i ≤ vs.length ∧ k' = vs.length + 1 - i ∧ Hk g g' ∧ Fx fr g0 h0 g' L h m' ((e, isEn it ((i : Nat) : Int)) :: (it, isLi l i) :: led') ∧ J i g' m' led' := by
      rintro ⟨g₃, m₃, led₃, h₆, tk₆, rfl, hk₆, X₆, led0, rfl, hJ₆⟩
      exact ⟨vs.length + 1 - (i + 1), by omega, h₆, tk₆, g₃, m₃, led0, i + 1, rfl, hlt, rfl, hk'.trans hk₆, X₆, hJ₆⟩
    cases f with
    | ret v => exact hR _ _ q
    | brk => exact hR _ _ q
    | next => exact next q
    | cont => exact next q
end
theorem noFill_tuple_mul : fillsNumberSlot (.type "tuple") "mul" = pure false :=
  PySem.fillsNumberSlot_seq (id := "tuple.__mul__") (r := some (.builtin "tuple.__rmul__")) PySem.F.slot_tuple_mul.lookup (by decide +kernel) PySem.F.slot_tuple_rmul.lookup (by decide +kernel)
theorem repeat_tuple : seqRepeat? (.type "tuple") = pure (some (.builtin "tuple.__mul__")) := by
  unfold seqRepeat?
  rw [PySem.seqSlot_of (T := "tuple") (name := "__mul__") (id := "tuple.__mul__") PySem.F.slot_tuple_mul.lookup (by decide +kernel), PySem.seqSlot_of (T := "tuple") (name := "__rmul__") (id := "tuple.__rmul__") PySem.F.slot_tuple_rmul.lookup (by decide +kernel)]
  rfl
theorem rmul_tuple (a : Int) (t : Tok) (l : Addr) (items : Array Value) (n : Nat) (d : Option Addr) (sl : Array (Option Value)) :
    Meets (Builtin.«int.__rmul__» ⟨[.int a t, .ref l], []⟩) (fun _ R s => s.heap.get? l = some { cls := .type "tuple", dict := d, data := .seq items n, slots := sl } ∧ R (.ok (.ret Value.notImplemented)) s) :=
  .of_wp fun prog w A R s h => by obtain ⟨hp, g, d, tk, os⟩ := s; obtain ⟨hl, h⟩ := h; wp_walk; exact ⟨_, rfl, h⟩
theorem tuple_mul_same (l : Addr) (items : Array Value) (n : Nat) (d : Option Addr) (sl : Array (Option Value)) (u : Tok) :
    Meets (Builtin.«tuple.__mul__» ⟨[.ref l, .int 1 u], []⟩) (fun _ R s => s.heap.get? l = some { cls := .type "tuple", dict := d, data := .seq items n, slots := sl } ∧ R (.ok (.ret (Value.ref l))) s) :=
  .of_wp fun prog w A R s h => by
    obtain ⟨hp, g, d, tk, os⟩ := s; obtain ⟨hl, h⟩ := h
    wp_walk
    exact ⟨_, rfl, h⟩
theorem tuple_mul_zero (l : Addr) (v : Value) (n : Nat) (d : Option Addr) (sl : Array (Option Value)) (u : Tok) :
    Meets (Builtin.«tuple.__mul__» ⟨[.ref l, .int 0 u], []⟩) (fun _ R s => s.heap.get? l = some { cls := .type "tuple", dict := d, data := .seq #[v] n, slots := sl } ∧ R (.ok (.ret (Value.ref s.heap.objs.size))) { s with heap := s.heap.push { cls := Value.type "tuple", data := Data.seq #[] }, toks := s.toks }) :=
  .of_wp fun prog w A R s h => by
    obtain ⟨hp, g, d, tk, os⟩ := s; obtain ⟨hl, h⟩ := h
    wp_walk
    exact ⟨_, rfl, h⟩
theorem tuple_mul_n (l : Addr) (v : Value) (n : Nat) (d : Option Addr) (sl : Array (Option Value)) (x : Int) (u : Tok) (h1 : 1 < x) (h2 : x ≤ 10000) :
    Meets (Builtin.«tuple.__mul__» ⟨[.ref l, .int x u], []⟩) (fun _ R s => s.heap.get? l = some { cls := .type "tuple", dict := d, data := .seq #[v] n, slots := sl } ∧ R (.ok (.ret (Value.ref s.heap.objs.size))) { s with heap := s.heap.push { cls := Value.type "tuple", data := Data.seq (List.foldl (fun x1 x2 => x1 ++ x2) #[] (List.replicate x.toNat #[v])) }, toks := s.toks }) :=
  .of_wp fun prog w A R s h => by
    obtain ⟨hp, g, d, tk, os⟩ := s; obtain ⟨hl, h⟩ := h
    have c1 : ¬ (x < -(2 ^ 63) || x ≥ 2 ^ 63) = true := by simp; omega
    have c2 : ¬ ((#[v] : Array Value).isEmpty || x == 1) = true := by simp; omega
    have c3 : ¬ (x ≤ 0 || (#[v] : Array Value).isEmpty) = true := by simp; omega
    have c4 : ¬ (((#[v] : Array Value).size : Int) * x > (2 ^ 63 - 1) / 8) := by simp; omega
    have c5 : ¬ (Builtin.Tuple.tupleTooMany (((#[v] : Array Value).size : Int) * x) = true) := by
      unfold Builtin.Tuple.tupleTooMany; rw [sizeLine_eq]; simp; omega
    have c6 : (List.foldl (fun x1 x2 => x1 ++ x2) #[] (List.replicate x.toNat #[v])).size ≤ sizeLine := by
      rw [size_rep, sizeLine_eq]; simp; omega
    wp_walk
    rw [if_neg c1]
    wp_walk
    rw [if_neg c2]
    wp_walk
    rw [if_neg c3]
    wp_walk
    rw [if_neg c4]
    wp_walk
    rw [if_neg c5]
    wp_walk
    exact ⟨_, rfl, h⟩
section
variable {w : World} {A : Around} {E : Value → Shared → Prop} {s : Shared} {mg mb : Str → Option Value}
variable {fr : List Addr} {g0 h0 g : Heap} {L : Addr} {m : Str → Option Value} {led : List (Addr × (Obj → Prop))} {v : Value}
theorem fold_rep (v : Value) : ∀ (n : Nat) (a : Array Value), List.foldl (fun x1 x2 => x1 ++ x2) a (List.replicate n #[v]) = (a.toList ++ List.replicate n v).toArray
  | 0, a => by simp
  | n + 1, a => by
    rw [List.replicate_succ, List.foldl_cons, fold_rep v n]
    simp [List.replicate_succ]
/-- (v,) * n -/
theorem mul_tup {Q : Value → Shared → Prop} {t : Addr} {n : Nat} {u : Tok} (f : FrOk fr h0) (X : Fx fr g0 h0 g L s.heap m led) (ht : g.IsTuple t [v].toArray) (hn : n ≤ 10000)
    (hQ : ∀ a g' h', Hk g g' → Fx fr g0 h0 g' L h' m led → g'.IsTuple a (List.replicate n v).toArray → Q (.ref a) { s with heap := h' }) : wpAny (Md w) A (binaryOp .Mult (.ref t) (.int n u)) Q E s := by
  obtain ⟨⟨cls, d, data, sl⟩, ho, hcl, k, hd⟩ := id (Heap.IsTuple.hk ht X.now)
  simp only at hcl hd
  subst hcl hd
  refine wpAny_binaryOp_repeat_ref (T := "tuple") (U := "int") (by decide) ⟨_, ho, rfl⟩ (fun s' => typeIs_int s' n u) noFill_tuple_mul PySem.F.fills_int_mul PySem.F.slot_int_rmul repeat_tuple PySem.F.slot_int_index.lookup
    (call_meets PySem.F.slot_int_rmul (typeIs_int s n u) PySem.F.entry_int_rmul (PySem.F.args_int_rmul_2 _ _) (rmul_tuple n u t [v].toArray k d sl) ⟨ho, rfl, ⟨_, ho, rfl⟩, ?_⟩)
  by_cases h1 : n = 1
  · subst h1
    refine call_meets PySem.F.slot_tuple_mul ⟨_, ho, rfl⟩ PySem.F.entry_tuple_mul (PySem.F.args_tuple_mul_2 _ _) (tuple_mul_same t [v].toArray k d sl u) ⟨ho, ?_⟩
    exact hQ t g s.heap (Hk.refl _) X ht
  · have hs := size_none s.heap
    have fin : ∀ items : Array Value, items = (List.replicate n v).toArray → Q (.ref s.heap.objs.size) { s with heap := s.heap.push { cls := Value.type "tuple", data := Data.seq items } } := fun items e => by
      subst e
      have Y := X.add (P := isTup (List.replicate n v)) (Hk.push s.heap { cls := .type "tuple", data := .seq (List.replicate n v).toArray }) hs (Heap.get?_push_size _ rfl) ⟨rfl, 0, rfl⟩
      obtain ⟨g', hk, ht', Z⟩ := Y.freeze (f.off X hs)
      exact hQ _ g' _ hk Z (tupleOf ht')
    by_cases h0 : n = 0
    · subst h0
      exact call_meets PySem.F.slot_tuple_mul ⟨_, ho, rfl⟩ PySem.F.entry_tuple_mul (PySem.F.args_tuple_mul_2 _ _) (tuple_mul_zero t v k d sl u) ⟨ho, fin _ (by simp)⟩
    · exact call_meets PySem.F.slot_tuple_mul ⟨_, ho, rfl⟩ PySem.F.entry_tuple_mul (PySem.F.args_tuple_mul_2 _ _) (tuple_mul_n t v k d sl n u (by omega) (by omega)) ⟨ho, fin _ (by rw [fold_rep]; simp)⟩
end
section
variable {w : World} {A : Around} {E : Value → Shared → Prop} {s : Shared} {mg mb : Str → Option Value} {sc : Scope} {env : Env} {cl : List (Str × Addr)}
variable {fr frT : List Addr} {g0 h0 g : Heap} {L : Addr} {h h' : Heap} {m : Str → Option Value} {led : List (Addr × (Obj → Prop))} {v : Value} {x : Str} {pos : Pos}

/-- an object that is none of ours turned -/
theorem Fx.other {C : Addr} (X : Fx fr g0 h0 g L h m led) (hb : Heap.SameBut C h h') (h1 : g.get? C = none) (h2 : h0.get? C = none) (h3 : C ≠ L) (h4 : ∀ p ∈ led, p.1 ≠ C) : Fx fr g0 h0 g L h' m led where
  old := X.old
  now := fun b o e => (hb.2 b fun q => by rw [q, h1] at e; cases e).trans (X.now b o e)
  new := X.new
  keep := fun b o hf e => (hb.2 b fun q => by rw [q, h2] at e; cases e).trans (X.keep b o hf e)
  live := fun b o e => by
    obtain ⟨o', ho'⟩ := X.live b o e
    exact ⟨o', (hb.2 b fun q => by rw [q, h2] at e; cases e).trans ho'⟩
  ns := X.ns.sameBut hb (Ne.symm h3)
  off := X.off
  off0 := X.off0
  led_ := fun p hp => by
    obtain ⟨⟨o, ho, hP⟩, r⟩ := X.led_ p hp
    exact ⟨⟨o, (hb.2 _ (h4 p hp)).trans ho, hP⟩, r⟩
  nd := X.nd

/-- a cell that stands still -/
theorem ldcG {Q : Value → Shared → Prop} {c : Addr} (X : Fx fr g0 h0 g L s.heap m led) (he : EnvIs env sc L cl) (hx : sc.names.lookup x = some .cell) (hc : cl.lookup x = some c)
    (hP : g.IsCell c (some v)) (h : Q v s)
    (hd : (x == ("__debug__" : Str)) = false := by decide +kernel) : wpAny (Md w) A (eval (.Name x pos) env) Q E s :=
  wpAny_Name (wpAny_loadName_cell he.k (he.kindOf hx) (by rw [he.cells]; exact hc) (let ⟨o, ho, hp⟩ := hP; ⟨o, X.now _ _ ho, hp⟩) h) hd

theorem Heap.IsCell.hk {g g' : Heap} {c : Addr} {v : Option Value} (x : g.IsCell c v) (hk : Hk g g') : g'.IsCell c v := let ⟨o, ho, hp⟩ := x; ⟨o, hk _ _ ho, hp⟩

/-- x = [..], where the store comes ahead of letting go -/
theorem Assign_ListComp_ {elt iter : Expr} {tgt : Expr} {ifs : List Expr} {scope : Scope} {y : Str} {py spos : Pos} {cl' : List (Str × Addr)} {Q : Flow → Shared → Prop}
    (hsw : swapsWith (.ListComp elt [⟨tgt, iter, ifs, 0⟩] scope pos) (some (.Name y py)) spos.line env = pure true)
    (hclos : closureFor scope env = pure cl') (hkind : scope.kind = .function) (hnames : (scope.names.all fun y => y.2 != .local || scope.names.lookup y.1 == some .local) = true)
    (h : wpAny (Md w) A (eval iter env) (fun xv s₁ => wpAny (Md w) A (pyIter xv) (fun it s₂ => wpAny (Md w) A (newList []) (fun acc s₃ =>
      wpAny (Md w) A (newFunctionEnv scope env.globals cl' [] env.qual none .none (some env)) (fun cenv s₄ =>
        codeAny (Md w) A (.compStart (.ListComp elt [⟨tgt, iter, ifs, 0⟩] scope pos) 0 it acc { cenv with scope := relabel scope env }) (compPost (Md w) A E (some (assign (.Name y py) env)) (fun _ s' => Q .next s') acc cenv.locals) s₄) E s₃) E s₂) E s₁) E s)
    (hs : ∀ x, foldedSetIterable iter env x = pure x) :
    wpAny (Md w) A (exec (.Assign [.Name y py] (.ListComp elt [⟨tgt, iter, ifs, 0⟩] scope pos) spos) env) Q E s := by
  rw [exec_Assign_Name_used _ _ _ _ hsw]
  refine wpAny_bind (wpAny_standAt (wpAny_bind ?_))
  show wpAny _ A (do let _ ← comprehension (.ListComp elt [⟨tgt, iter, ifs, 0⟩] scope pos) scope env _ (newList []) false (eval iter env) (some (assign (.Name y py) env))) _ _ s
  exact wpAny_bind (wpAny_mono (wpAny_comprehension_free (use := some (assign (.Name y py) env)) (Q := fun _ s' => Q .next s') rfl hs hclos hkind (fun y hy hl => by
    have := List.all_eq_true.mp hnames y hy
    rw [hl] at this
    simpa using this) h) (fun _ s' hq => wpAny_pure (wpAny_pure hq)) fun _ _ e => e)

/-- y = [elt for x in range(n)], one mutable object turned at each -/
theorem comp_range_T {k : Nat} {elt iter : Expr} {px ppos : Pos} {ifs : List Expr} {scope : Scope} {cl' : List (Str × Addr)} {y : Str} {py : Pos} {r : Addr} {n : Nat} {t u v : Tok} {Q : Flow → Shared → Prop} {T : Addr} {PT : Nat → Obj → Prop}
    (rm : Rm A k) (he : EnvIs env sc L cl) (f : FrOk fr h0) (X : Fx fr g0 h0 g L s.heap m ((T, PT 0) :: led)) (hr : IsRange g r 0 n 1 t u v) (J : Nat → Heap → List Value → Prop) (hj : J 0 g []) (hn : n ≤ 1000) (hJl : ∀ i g ys, J i g ys → ys.length ≤ 1000)
    (hcell : (scope.names.all fun y => y.2 != .cell) = true) (hkind : scope.kind = .function) (hx : (relabelS scope sc).names.lookup x = some .local) (hy : sc.names.lookup y = some .local)
    (turn : ∀ i g' ys C D I h tk mc it cenv E' t, EnvIs cenv (relabelS scope sc) C cl' → i < n → Hk g g' → J i g' ys → Fx [T] g s.heap g' C h (mset mc x (.int (i : Nat) t)) [(D, isPl ys), (I, it), (T, PT i)] →
      wpAny (Md w) A (testsOf ifs cenv) (fun ok s₃ => if ok = true then wpAny (Md w) A (eval elt cenv) (EltEnd [T] g s C D I it [(T, PT (i + 1))] g' ys (J (i + 1))) E' s₃ else EltSkip [T] g s C D I it [(T, PT (i + 1))] g' ys (J (i + 1)) s₃) E' { s with heap := h, toks := tk })
    (hQ : ∀ D g1 g2 ys h' tk, Hk g g1 → Hk g1 g2 → J n g1 ys → g2.PlainList D ys.toArray → Fx fr g0 h0 g2 L h' (mset m y (.ref D)) ((T, PT n) :: led) → Q .next { s with heap := h', toks := tk }) :
    wpAny (Md w) A (pyIter (.ref r)) (fun it s₂ => wpAny (Md w) A (newList []) (fun acc s₃ => wpAny (Md w) A (newFunctionEnv scope env.globals cl' [] env.qual none .none (some env)) (fun cenv s₄ =>
      codeAny (Md w) A (.compStart (.ListComp elt [⟨.Name x px, iter, ifs, 0⟩] scope pos) 0 it acc { cenv with scope := relabel scope env }) (compPost (Md w) A E (some (assign (.Name y py) env)) (fun _ s' => Q .next s') acc cenv.locals) s₄) E s₃) E s₂) E s := by
  have hsz : Builtin.Range.rangeSize 0 n 1 = n := by
    unfold Builtin.Range.rangeSize
    rw [if_pos (by decide)]
    split <;> omega
  refine wpAny_pyIter_range (X.now _ _ hr) (by unfold Builtin.Range.small; rw [hsz]; simp [Builtin.Range.rangeFitsLong]; omega) ?_
  rw [hsz]
  have hk : Hk s.heap (s.heap.push { cls := .type "range_iterator", data := .fields #[rawInt 0, rawInt n, rawInt 1] }) := Hk.push _ _
  obtain ⟨hT, hTL, hTg, _⟩ := X.led_ (T, PT 0) List.mem_cons_self
  refine comp_core (sb := s) (frT := [T]) (fp := [s.heap.objs.size]) (RR := fun acc C => compPost (Md w) A E (some (assign (.Name y py) env)) (fun _ s' => Q .next s') acc C)
    (Walks.range rm.hh s.heap.objs.size 0 1 n) ?_ he J (fun i => [(T, PT i)]) (fun _ => rfl) X.now hk ⟨_, _, rfl⟩ (size_none _)
    (by simpa using Heap.get?_push_size _ rfl) ?_ (fun p hp => by rw [List.mem_singleton.mp hp]; exact ⟨hT, hTg⟩) (by simp) hj hn hJl hcell hkind hx
    (fun i v g' ys C D h tk mc it cenv E' hce hi hP hk' hJ X' => ?_) ?_
  · intro i h ho; exact ⟨_, ho⟩
  · intro b hb
    exact .inl (by simpa using hb)
  · obtain ⟨t, rfl⟩ := hP
    simp only [Int.zero_add, Int.mul_one] at X'
    exact turn i g' ys C D _ h tk mc it cenv E' t hce hi hk' hJ X'
  · intro D g' ys C h tk mc hk' hJ hD hC Y
    have hDT : D ≠ T := fun q => by obtain ⟨o, ho, _⟩ := hT; rw [← q, hD] at ho; cases ho
    obtain ⟨g₂, hk₂, ⟨oD, hoD, nD, rfl⟩, Y⟩ := Y.freeze (by simpa using hDT)
    obtain ⟨c1, c2, c3, c4⟩ := X.fresh_ne hC
    have Z := X.outT Y.toOut (Y.at List.mem_cons_self)
    show wpAny (Md w) A (assign (.Name y py) env (.ref D)) _ _ _
    refine wpAny_assign_Name (wpAny_storeName_local (he.kindOf hy) (by rw [he.locals]; exact Z.ns) (fun h₂ hn₂ hs₂ => ?_) (by rw [he.k]; rfl))
    rw [he.locals] at hn₂ hs₂
    refine ⟨mc, Y.ns.sameBut hs₂ c1, fun h'' hs'' => ?_⟩
    have Z2 := (Z.set (m' := mset m y (.ref D)) hn₂ hs₂).other hs'' Y.off c3 c1 (fun p hp => by
      rcases List.mem_cons.mp hp with rfl | hp
      · exact c4 (T, PT 0) List.mem_cons_self
      · exact c4 _ (List.mem_cons_of_mem _ hp))
    exact hQ D g' g₂ ys h'' _ hk' hk₂ hJ ⟨nD, hoD⟩ Z2

/-- None not in a list of words -/
theorem notin_words {Q : Value → Shared → Prop} {l : Addr} {vs : List Value} {W : List (Option (List Nat))} (hl : s.heap.IsList l vs.toArray) (hw : WordsV s.heap vs W) (hu : A.units + 1 < cLine)
    (h : Q (.bool (decide (none ∉ W))) s) : wpAny (Md w) A (compareOp .NotIn .none (.ref l)) Q E s := by
  refine PySem.SeqAt.notIn_listAt (fun y => y == .none) hl (fun y hy => ?_) ?_
  · obtain ⟨i, hi, rfl⟩ := List.mem_iff_getElem.mp (by simpa using hy : y ∈ vs)
    have := hw.2 i hi (hw.1 ▸ hi)
    generalize W[i]'(hw.1 ▸ hi) = o at this
    cases o with
    | none =>
      have e : vs[i] = .none := this
      rw [e]; exact PySem.SeqAt.EqAt.same _
    | some ks =>
      obtain ⟨a, us, e, ht, _⟩ := this
      rw [e]; exact PySem.SeqAt.EqAt.tuple_none ht hu
  · have e : (!(vs.toArray.any fun y => y == .none)) = decide (none ∉ W) := by
      rw [Bool.eq_iff_iff]
      simp only [Bool.not_eq_true', decide_eq_true_eq, List.any_toArray, List.any_eq_false]
      constructor
      · intro h hm
        obtain ⟨i, hi, e⟩ := List.mem_iff_getElem.mp hm
        have h2 := hw.2 i (hw.1.symm ▸ hi) hi
        rw [e] at h2
        have h2 : vs[i]'(hw.1.symm ▸ hi) = .none := h2
        exact h _ (List.getElem_mem (hw.1.symm ▸ hi)) (by rw [h2]; rfl)
      · intro h y hy e
        obtain ⟨i, hi, rfl⟩ := List.mem_iff_getElem.mp hy
        have h2 := hw.2 i hi (hw.1 ▸ hi)
        have e2 : vs[i] = .none := eq_of_beq e
        cases ho : W[i]'(hw.1 ▸ hi) with
        | none => exact h (ho ▸ List.getElem_mem _)
        | some ks =>
          rw [ho] at h2
          obtain ⟨a, us, e3, _⟩ := h2
          rw [e2] at e3; cases e3
    rw [e]; exact h
/-- two values that are the same word -/
theorem ne_words {Q : Value → Shared → Prop} {a b : Value} {o : Option (List Nat)} (ha : WordV s.heap a o) (hb : WordV s.heap b o) (hu : A.units < cLine) (h : Q (.bool false) s) : wpAny (Md w) A (compareOp .NotEq a b) Q E s := by
  show wpAny _ A (richCompare .NotEq _ _) Q E s
  cases o with
  | none => cases ha; cases hb; exact PySem.SeqAt.RcNeAt.none_none _ _ _ _ h
  | some ks =>
    obtain ⟨x, vs, rfl, hx, hi⟩ := ha
    obtain ⟨y, us, rfl, hy, hj⟩ := hb
    have h1 := hi.length
    have h2 := hj.length
    refine PySem.SeqAt.RcNeAt.tuples (e := fun _ => true) hx hy hu (fun j j1 j2 => ?_) _ _ _ _ ?_
    · have j1 : j < vs.length := by simpa using j1
      have j2 : j < us.length := by simpa using j2
      obtain ⟨hk, t, e1⟩ := nat_at hi (List.getElem?_eq_getElem j1)
      obtain ⟨hk', t', e2⟩ := nat_at hj (List.getElem?_eq_getElem j2)
      show PySem.SeqAt.EqAt A.in1 s vs[j] us[j] true
      rw [e1, e2]
      have := PySem.SeqAt.EqAt.int_int (A := A.in1) (s := s) (ks[j] : Int) t (ks[j] : Int) t'
      simpa using this
    · have e : vs.length = us.length := by omega
      have e2 : (!((List.range (min vs.toArray.size us.toArray.size)).all (fun _ => true) && vs.toArray.size == us.toArray.size)) = false := by simp [e]
      rw [e2]; exact h
end
section
variable {w : World} {A : Around} {E : Value → Shared → Prop} {s : Shared} {mg mb : Str → Option Value} {env : Env} {sc : Scope} {cl : List (Str × Addr)}
variable {fr : List Addr} {g0 h0 g : Heap} {L : Addr} {m : Str → Option Value} {led : List (Addr × (Obj → Prop))} {v : Value} {x : Str} {pos : Pos}
/-- a call, as code, of a def some of whose names are cells -/
theorem codePC {k : Nat} {R : Result → Shared → Prop} {name qual : Str} {params : Arguments} {body : List Stmt} {dV kV doc pm cdv ct oc : Value} {an od : Option Addr} {osl : Array (Option Value)} {f : Addr} {args : List Value} {kw : List (Str × Value)} (binds bl bc : List (Str × Value)) (cs : Nat → List (Str × Addr))
    (W : Wd w mg mb g) (hg : Hk g s.heap) (rm : Rm A (k + 1))
    (ho : (Kf w).lookup f = some ⟨oc, od, .func (fnX name qual params body sc [] dV kV doc pm an cdv ct), osl⟩) (hcd : codeIn (Kf w) cdv qual = true)
    (hbind : BindsTo s (fnX name qual params body sc [] dV kV doc pm an cdv ct) ⟨args, kw⟩ binds)
    (hkind : ∀ n, (binds.all fun y => sc.names.lookup y.1 == some .local || (sc.names.lookup y.1 == some .cell && ((cs n).lookup y.1).isSome)) = true)
    (hcs : ∀ n, cellsFrom (n + 1) sc.names [] = cs n) (hnd : ∀ n, ((cs n).map (·.1)).Nodup)
    (hbl : bindL (fun y => sc.names.lookup y) binds (fun _ => none) = mOf bl) (hbc : bindC (fun y => sc.names.lookup y) binds (fun _ => none) = mOf bc)
    (hco : sc.isCoroutine = false) (hgen : sc.isGenerator = false) (hk : sc.kind = .function)
    (h : ∀ env L h₁ tk A', IsS0 s → EnvIs env sc L (cs L) → Rm A' k → Fx [] g s.heap g L h₁ (mOf bl) ((cs L).map fun p => (p.2, isCell (mOf bc p.1))) →
      wpAny (Md w) A' (execs body env) (fun fl s' => R (.ok (.ret (fval fl))) s') (fun _ _ => False) { s with heap := h₁, toks := tk }) :
    codeAny (Md w) A (.call (.ref f) ⟨args, kw⟩) R s := by
  have hi := W.K.keeps hg
  refine codeAny_call_function rm.room (hi _ _ ho) rfl hco hgen rfl (codeRec_of hi hcd) (hbind _ _ _ _ ?_)
  refine wpAny_newFunctionEnv_cells hk (kinds_of (hcs _) (hkind _)) fun env' he s' X => ?_
  subst he
  refine ⟨(W.lim.keeps hg).keeps X.toInCall.keep, codeAny_func ?_⟩
  obtain ⟨h₁, tk, rfl, _⟩ := X.toInCall.same
  have hns := X.toInCall.ns
  have hcell := X.cell
  have hap := X.apart
  have hab := X.above
  have hkp := X.toInCall.keep
  simp only [newEnv] at hns hcell hap hab
  have hns' : h₁.Ns s.heap.objs.size (mOf bl) := by rw [← hbl]; exact hns
  have hcell' : ∀ n c, (cs s.heap.objs.size).lookup n = some c → h₁.IsCell c (mOf bc n) := fun n c e => by
    have := hcell n c (by rw [hcs]; exact e)
    rw [← hbc]; exact this
  rw [hcs] at hap hab
  have hled : ∀ p ∈ (cs s.heap.objs.size).map (fun p => (p.2, isCell (mOf bc p.1))), (∃ o, h₁.get? p.1 = some o ∧ p.2 o) ∧ p.1 ≠ s.heap.objs.size ∧ g.get? p.1 = none ∧ (s.heap.get? p.1 = none ∨ p.1 ∈ ([] : List Addr)) := fun p hp => by
    obtain ⟨⟨n, c⟩, hm, rfl⟩ := List.mem_map.mp hp
    have hlt := hab n c hm
    obtain ⟨o, ho, hd⟩ := hcell' n c (lookup_of_mem_nodup (hnd _) hm)
    have hn : s.heap.get? c = none := Heap.get?_none_of_le (Nat.le_of_lt hlt)
    exact ⟨⟨o, ho, hd⟩, Nat.ne_of_gt hlt, none_of_hk hg hn, .inl hn⟩
  have Y : Fx [] g s.heap g s.heap.objs.size h₁ (mOf bl) ((cs s.heap.objs.size).map fun p => (p.2, isCell (mOf bc p.1))) := Fx.start hg hkp hns' (size_none _) hled (by
    rw [List.map_map]
    show ((cs s.heap.objs.size).map fun p => p.2).Nodup
    rw [List.nodup_iff_pairwise_ne, List.pairwise_map]
    exact hap)
  refine wpAny_mono (h _ _ h₁ tk _ trivial ⟨rfl, rfl, rfl, rfl, hcs _, hk⟩ rm.deeper Y) (fun fl s' hq => ?_) (fun _ _ x => x.elim)
  cases fl <;> exact hq

/-- d.get(key, default) -/
theorem dget {K : Type} [DecidableEq K] {knd : KeyKind pr w K} {Q : Value → Shared → Prop} {d : Addr} {kvs : List (K × Value)} {k : K} {key dflt : Value} (hkey : knd.is k key = true) (hd : (d == sysModules) = false)
    (hD : ∃ o, s.heap.get? d = some o ∧ o.IsDictOf knd kvs) (hQ : Q ((valueAt kvs k).getD dflt) { s with toks := s.toks + 1 }) : wpAny (Md w) A (call (.builtin "dict.get") [.ref d, key, dflt]) Q E s := by
  have hm : s.heap.DictOf knd d kvs := Heap.dictOf_iff.mpr hD
  exact call_meetsIn PySem.F.slot_dict_get hm.typeIs PySem.F.entry_dict_get (PySem.F.args_dict_get_3 _ _ _) (meets_dict_get_default knd d hkey hd dflt) ⟨_, hm.mapOf, hQ⟩
/-- the ledger's first, a cell, stands still from now on -/
theorem Fx.freezeCell {h : Heap} {c : Addr} {v : Value} (X : Fx fr g0 h0 g L h m ((c, isCell (some v)) :: led)) (ha : c ∉ fr) : ∃ g', Hk g g' ∧ g'.IsCell c (some v) ∧ Fx fr g0 h0 g' L h m led := X.freeze ha
theorem is_not_none_none {Q : Value → Shared → Prop} (hQ : Q (.bool false) s) : wpAny (Md w) A (compareOp .IsNot .none .none) Q E s := wpAny_isNot_self rfl hQ
theorem is_not_none_ref {Q : Value → Shared → Prop} {a : Addr} (hQ : Q (.bool true) s) : wpAny (Md w) A (compareOp .IsNot (.ref a) .none) Q E s := wpAny_isNot_other rfl (by intro h; cases h) hQ
end
section
variable {fr : List Addr} {g0 h0 g g1 h h1 : Heap} {L : Addr} {m : Str → Option Value} {led : List (Addr × (Obj → Prop))} {a x : Addr} {P P' R : Obj → Prop}
theorem Fx.adoptT (X : Fx fr g0 h0 g L h m ((a, P) :: led)) (O : Out [a] g h g1 h1) (ho : ∃ o, h1.get? a = some o ∧ P' o) (hx : h.get? x = none) (hg1 : g1.get? x = none) (hx1 : ∃ o, h1.get? x = some o ∧ R o) : Fx fr g0 h0 g1 L h1 m ((x, R) :: (a, P') :: led) := by
  have Y := X.outT O ho
  obtain ⟨n1, n2, n3, n4⟩ := X.fresh_ne hx
  have Z := Y.more (led' := [(x, R)]) (fun p hp => by
    rw [List.mem_singleton.mp hp]
    refine ⟨hx1, n1, hg1, n3, fun q hq => ?_⟩
    rcases List.mem_cons.mp hq with rfl | hq
    · exact n4 (a, P) List.mem_cons_self
    · exact n4 q (List.mem_cons_of_mem _ hq)) (by simp)
  exact Z.perm (List.perm_append_comm (l₁ := [(x, R)]))
end
section
variable {env : Env} {sc : Scope} {L : Addr} {cl : List (Str × Addr)}
theorem sw_two {a b : Str} {pa pb : Pos} {c d : Expr} {k k' : Nat} {t t' : Pos} (he : EnvIs env sc L cl) (ha : sc.names.lookup a = some .local) (hb : sc.names.lookup b = some .local) (hl : (pb.line == pa.line) = true) (hab : (a == b) = false)
    (hbk : env.blockKind = .function) (hs : ([c, d].any fun | .Starred .. => true | _ => false) = false) (h1 : [c, d].all (foldedForSure 8) = false) (h2 : [c, d].all (constantsAlone 8) = false) :
    swappedStores [.Tuple [.Name a pa, .Name b pb] k t] (.Tuple [c, d] k' t') env = pure (some [a, b]) := by
  unfold swappedStores
  dsimp only
  have ka : (env.kindOf a == some .local) = true := by rw [he.kindOf ha]; rfl
  have kb : (env.kindOf b == some .local) = true := by rw [he.kindOf hb]; rfl
  have e : ([Expr.Name a pa, Expr.Name b pb].filterMap fun
    | .Name id pos => if env.kindOf id == some .local && pos.line == (([Expr.Name a pa, Expr.Name b pb].head?.map (·.pos.line)).getD 0) then some id else none
    | _ => none) = [a, b] := by
    have l1 : (([Expr.Name a pa, Expr.Name b pb].head?.map (·.pos.line)).getD 0) = pa.line := rfl
    rw [l1]
    simp only [List.filterMap_cons, List.filterMap_nil, ka, kb, hl, Bool.and_self, if_true, BEq.rfl]
  have e2 : (b == a) = false := by rw [BEq.comm]; exact hab
  have e3 : [a, b].eraseDups = [a, b] := by
    simp [List.eraseDups_cons, e2]
  have c1 : ¬ ((!([Expr.Name a pa, Expr.Name b pb].length == 2 || [Expr.Name a pa, Expr.Name b pb].length == 3) || [c, d].length != [Expr.Name a pa, Expr.Name b pb].length || env.blockKind != .function) = true) := by
    rw [hbk]; exact fun q => by cases q
  rw [if_neg c1]
  rw [if_neg (fun q => by have := hs.symm.trans q; cases this)]
  generalize hN : List.filterMap _ [Expr.Name a pa, Expr.Name b pb] = names
  have hN : names = [a, b] := hN.symm.trans e
  subst hN
  rw [e3]
  rw [if_neg (fun q => by cases q), if_neg (by rw [h1]; exact Bool.false_ne_true), if_neg (by rw [h2]; exact Bool.false_ne_true)]
end
section
variable {w : World} {A : Around} {E : Value → Shared → Prop} {s : Shared} {env : Env} {sc : Scope} {cl : List (Str × Addr)}
variable {fr : List Addr} {g0 h0 g : Heap} {L : Addr} {m : Str → Option Value} {led : List (Addr × (Obj → Prop))} {x y : Str}
theorem unpack_swapped {k : Nat} {a b : Value} {t : Addr} {Q : Flow → Shared → Prop} (rm : Rm A k) (he : EnvIs env sc L cl) (hx : sc.names.lookup x = some .local) (hy : sc.names.lookup y = some .local) (X : Fx fr g0 h0 g L s.heap m led) (ht : g.IsTuple t [a, b].toArray)
    (hQ : ∀ h' tk, Fx fr g0 h0 g L h' (mset (mset m y b) x a) led → Q .next { s with heap := h', toks := tk }) :
    wpAny (Md w) A (unpackItems (.ref t) [x, y].length none) (fun items s₂ => wpAny (Md w) A (assignInOrder ([x, y].reverse.map fun n => bindName env n) items.reverse) (fun _ => Q .next) E s₂) E s := by
  show wpAny (Md w) A (unpackItems (.ref t) [a, b].toArray.size none) _ _ _
  refine wpAny_unpackItems_tuple rm.hh (Heap.IsTuple.hk ht X.now) fun h' hx' => ?_
  have X1 := X.keeps (h' := h') fun b o e => hx' b o (Nat.ne_of_lt (Heap.lt_size e)) e
  show wpAny (Md w) A (assignInOrder [bindName env y, bindName env x] [b, a]) _ _ _
  exact wpAny_assignInOrder_more (wpAny_bindName (stv X1 he hy fun h₄ X₄ => wpAny_assignInOrder_more (wpAny_bindName (stv X₄ he hx fun h₅ X₅ => wpAny_assignInOrder_none (hQ _ _ X₅)))))
theorem ints_rep {n : Nat} {t : Tok} : IntsAre (List.replicate n (.int 3 t)) (nats (List.replicate n 3)) := by
  induction n with
  | zero => exact .nil
  | succ n ih => exact .cons _ _ ih
theorem val_again {kd kd1 : List (Str × Value)} {x : Str} {v1 v2 : Value} (h : ∀ y, valueAt kd1 y = if y = x then some v1 else valueAt kd y) : ∀ y, valueAt (stored kd1 x v2) y = if y = x then some v2 else valueAt kd y := fun y => by
  rw [valueAt_stored]
  by_cases q : y = x
  · rw [if_pos q, if_pos q]
  · rw [if_neg q, if_neg q, h, if_neg q]
theorem swaps_true {elt : Expr} {gens : List Comprehension} {scope : Scope} {pos py : Pos} {line : Nat} (he : EnvIs env sc L cl) (hy : sc.names.lookup y = some .local) (hbk : env.blockKind = .function) (hl : (py.line == pos.line) = true)
    (hn : (scope.names.any fun (n, k) => n == y && (k == .local || k == .cell)) = false) : swapsWith (.ListComp elt gens scope pos) (some (.Name y py)) line env = pure true := by
  unfold swapsWith
  dsimp only
  have e : (Expr.ListComp elt gens scope pos).pos = pos := rfl
  rw [he.kindOf hy, hbk, hn, e, hl]
  rfl
end
set_option maxHeartbeats 8000000
local macro_rules | `(tactic| walk_at "lit") => `(tactic| (conv in (PySem.execs _ _) => (arg 1; whnf)))
local macro_rules | `(tactic| walk_at "hv") => `(tactic| first | assumption | exact mset_eq | rfl | ((refine (mset_ne (by decide +kernel)).trans ?_); walk_at "hv") | (unfold mOf; simp only [List.foldl]; walk_at "hv"))
local macro_rules | `(tactic| walk_at "now") => `(tactic| exact Out.now (Fx.toOut (by assumption)))
local macro_rules | `(tactic| walk_at "now2") => `(tactic| exact Heap.IsTuple.hk (by assumption) (Out.now (Fx.toOut (by assumption))))
local macro_rules | `(tactic| walk_at "a0") => `(tactic| with_reducible (refine execs_cons' ?_))
local macro_rules | `(tactic| walk_at "a1") => `(tactic| with_reducible (refine wpAny_execs_nil ?_))
local macro_rules | `(tactic| walk_at "a2") => `(tactic| with_reducible ((refine thenRest_next0 (by assumption) ⟨_, by with_unfolding_all rfl⟩ ?_; intro _)))
local macro_rules | `(tactic| walk_at "a3") => `(tactic| with_reducible (refine thenRest_ret ?_))
local macro_rules | `(tactic| walk_at "a4") => `(tactic| with_reducible (refine TurnPost_next ?_))
local macro_rules | `(tactic| walk_at "a5") => `(tactic| with_reducible (refine WhilePost_next ?_))
local macro_rules | `(tactic| walk_at "a6") => `(tactic| with_reducible (refine TurnPost_ret ?_))
local macro_rules | `(tactic| walk_at "a7") => `(tactic| with_reducible (refine ldv (by assumption) (by assumption) (by with_unfolding_all rfl) (by walk_at "hv") ?_))
local macro_rules | `(tactic| walk_at "a8") => `(tactic| with_reducible (refine ldg (by assumption) (by assumption) (by assumption) (by with_unfolding_all rfl) (by with_unfolding_all rfl) ?_))
local macro_rules | `(tactic| walk_at "a9") => `(tactic| with_reducible (refine ldb' bb_len (by assumption) (by assumption) (by assumption) (by with_unfolding_all rfl) (by with_unfolding_all rfl) ?_))
local macro_rules | `(tactic| walk_at "a10") => `(tactic| with_reducible (refine ldb' bb_abs (by assumption) (by assumption) (by assumption) (by with_unfolding_all rfl) (by with_unfolding_all rfl) ?_))
local macro_rules | `(tactic| walk_at "a11") => `(tactic| with_reducible (refine ldb' bb_range (by assumption) (by assumption) (by assumption) (by with_unfolding_all rfl) (by with_unfolding_all rfl) ?_))
local macro_rules | `(tactic| walk_at "a12") => `(tactic| with_reducible (refine ldb' bb_int (by assumption) (by assumption) (by assumption) (by with_unfolding_all rfl) (by with_unfolding_all rfl) ?_))
local macro_rules | `(tactic| walk_at "a13") => `(tactic| with_reducible (refine ldb' bb_list (by assumption) (by assumption) (by assumption) (by with_unfolding_all rfl) (by with_unfolding_all rfl) ?_))
local macro_rules | `(tactic| walk_at "a14") => `(tactic| with_reducible (refine ldb' bb_tuple (by assumption) (by assumption) (by assumption) (by with_unfolding_all rfl) (by with_unfolding_all rfl) ?_))
local macro_rules | `(tactic| walk_at "a15") => `(tactic| with_reducible (refine ldb' bb_enumerate (by assumption) (by assumption) (by assumption) (by with_unfolding_all rfl) (by with_unfolding_all rfl) ?_))
local macro_rules | `(tactic| walk_at "a16") => `(tactic| with_reducible (refine ldb' bb_str (by assumption) (by assumption) (by assumption) (by with_unfolding_all rfl) (by with_unfolding_all rfl) ?_))
local macro_rules | `(tactic| walk_at "a17") => `(tactic| with_reducible (((refine stv (by assumption) (by assumption) (by with_unfolding_all rfl) ?_); intro _ _)))
local macro_rules | `(tactic| walk_at "a18") => `(tactic| with_reducible (refine wpAny_Constant_int ?_))
local macro_rules | `(tactic| walk_at "a19") => `(tactic| with_reducible (refine wpAny_Constant_str ?_))
local macro_rules | `(tactic| walk_at "a20") => `(tactic| with_reducible (refine wpAny_Constant_none ?_))
local macro_rules | `(tactic| walk_at "a21") => `(tactic| with_reducible (refine wpAny_Constant_bool ?_))
local macro_rules | `(tactic| walk_at "a22") => `(tactic| with_reducible (refine Subscript_ ?_))
local macro_rules | `(tactic| walk_at "a23") => `(tactic| with_reducible (refine wpAny_BinOp ?_))
local macro_rules | `(tactic| walk_at "a24") => `(tactic| with_reducible (refine wpAny_Compare1 ?_ (by with_unfolding_all rfl)))
local macro_rules | `(tactic| walk_at "a25") => `(tactic| with_reducible (refine wpAny_isTrue_Compare1 ?_ (by with_unfolding_all rfl)))
local macro_rules | `(tactic| walk_at "a26") => `(tactic| with_reducible (refine wpAny_truthy_bool ?_))
local macro_rules | `(tactic| walk_at "a27") => `(tactic| with_reducible (refine wpAny_UnaryOp ?_))
local macro_rules | `(tactic| walk_at "a28") => `(tactic| with_reducible (refine wpAny_IfExp ?_))
local macro_rules | `(tactic| walk_at "a29") => `(tactic| with_reducible (refine wpAny_isTrue_BoolOp ?_))
local macro_rules | `(tactic| walk_at "a30") => `(tactic| with_reducible (refine wpAny_allTrue_And_cons ?_))
local macro_rules | `(tactic| walk_at "a31") => `(tactic| with_reducible (refine wpAny_allTrue_And_nil ?_))
local macro_rules | `(tactic| walk_at "a32") => `(tactic| with_reducible (refine wpAny_allTrue_Or_cons ?_))
local macro_rules | `(tactic| walk_at "a33") => `(tactic| with_reducible (refine wpAny_allTrue_Or_nil ?_))
local macro_rules | `(tactic| walk_at "a35") => `(tactic| with_reducible (refine wpAny_isTrue_value ?_ (by with_unfolding_all rfl)))
local macro_rules | `(tactic| walk_at "a36") => `(tactic| with_reducible (refine wpAny_Return_some ?_))
local macro_rules | `(tactic| walk_at "a37") => `(tactic| with_reducible (refine wpAny_Assign_Name ?_ (by with_unfolding_all rfl)))
local macro_rules | `(tactic| walk_at "a38") => `(tactic| with_reducible (refine PyProof.Rows.add_int ?_))
local macro_rules | `(tactic| walk_at "a39") => `(tactic| with_reducible (refine PyProof.Rows.sub_int ?_))
local macro_rules | `(tactic| walk_at "a40") => `(tactic| with_reducible (refine PyProof.Rows.lt_int ?_))
local macro_rules | `(tactic| walk_at "a41") => `(tactic| with_reducible (refine PyProof.Rows.le_int ?_))
local macro_rules | `(tactic| walk_at "a42") => `(tactic| with_reducible (refine PyProof.Rows.eq_int ?_))
local macro_rules | `(tactic| walk_at "a43") => `(tactic| with_reducible (refine PyProof.Rows.neg_int ?_))
local macro_rules | `(tactic| walk_at "a44") => `(tactic| with_reducible (refine PyProof.Rows.ne_int ?_))
local macro_rules | `(tactic| walk_at "a45") => `(tactic| with_reducible (refine PyProof.Rows.ge_int ?_))
local macro_rules | `(tactic| walk_at "a46") => `(tactic| with_reducible (refine Assign_Tuple ?_ (by with_unfolding_all rfl) (by with_unfolding_all rfl)))
local macro_rules | `(tactic| walk_at "a47") => `(tactic| with_reducible (refine plainObj_wpAny_Assign_Attribute ?_ (by with_unfolding_all rfl)))
local macro_rules | `(tactic| walk_at "a48") => `(tactic| with_reducible (refine wpAny_Assign_Subscript ?_ (by with_unfolding_all rfl)))
local macro_rules | `(tactic| walk_at "a49") => `(tactic| with_reducible (refine MethodCall_ ?_ (by with_unfolding_all rfl)))
local macro_rules | `(tactic| walk_at "a50") => `(tactic| with_reducible (refine Call_ ?_ (by with_unfolding_all rfl)))
local macro_rules | `(tactic| walk_at "a51") => `(tactic| with_reducible (refine callw (by assumption) (by with_unfolding_all rfl) ?_ (by with_unfolding_all rfl) (by with_unfolding_all rfl)))
local macro_rules | `(tactic| walk_at "a52") => `(tactic| with_reducible (refine callw0 (by assumption) (Out.now (Fx.toOut (by assumption))) (by with_unfolding_all rfl) ?_))
local macro_rules | `(tactic| walk_at "a53") => `(tactic| with_reducible (refine PyProof.Rows.callWith_type1 ?_ (by with_unfolding_all rfl) (by with_unfolding_all rfl)))
local macro_rules | `(tactic| walk_at "a54") => `(tactic| with_reducible (refine callb ?_ (by with_unfolding_all rfl) (by with_unfolding_all rfl)))
local macro_rules | `(tactic| walk_at "a55") => `(tactic| with_reducible (refine And.intro (Out.now (Fx.toOut (by assumption))) ?_))
local macro_rules | `(tactic| walk_at "a56") => `(tactic| with_reducible (refine Attribute_any_ ?_ (by with_unfolding_all rfl)))
local macro_rules | `(tactic| walk_at "a57") => `(tactic| with_reducible (refine wpAny_Expr_any ?_ (EnvIs.inter (by assumption)) (by with_unfolding_all rfl)))
local macro_rules | `(tactic| walk_at "a58") => `(tactic| with_reducible (refine Tuple_ ?_))
local macro_rules | `(tactic| walk_at "a59") => `(tactic| with_reducible (refine List_ ?_))
local macro_rules | `(tactic| walk_at "a60") => `(tactic| with_reducible (refine args_nil ?_))
local macro_rules | `(tactic| walk_at "a61") => `(tactic| with_reducible (refine args_cons ?_ (by with_unfolding_all rfl)))
local macro_rules | `(tactic| walk_at "a62") => `(tactic| with_reducible (refine wpAny_For ?_ (by intro _; with_unfolding_all rfl)))
local macro_rules | `(tactic| walk_at "a63") => `(tactic| with_reducible (refine wpAny_While ?_))
local macro_rules | `(tactic| walk_at "a64") => `(tactic| with_reducible (refine wpAny_Slice ?_))
local macro_rules | `(tactic| walk_at "a65") => `(tactic| with_reducible (refine evalPart_none_step ?_))
local macro_rules | `(tactic| walk_at "a66") => `(tactic| with_reducible (refine evalPart_some_step ?_))
local macro_rules | `(tactic| walk_at "a67") => `(tactic| with_reducible (refine PyProof.Rows.eq_str ?_))
local macro_rules | `(tactic| walk_at "af") => `(tactic| with_reducible (refine wpAny_If ?_))
local macro_rules | `(tactic| walk_at "at") => `(tactic| with_reducible (refine ift ?_))
local macro_rules | `(tactic| walk_at "an") => `(tactic| with_reducible (refine ifn ?_))
local macro_rules | `(tactic| walk_at "attr1") => `(tactic| (refine attr_g (by assumption) (by assumption) (by assumption) (by assumption) (by with_unfolding_all rfl) (by with_unfolding_all rfl) (by with_unfolding_all rfl) (by with_unfolding_all rfl) (by with_unfolding_all rfl) ?_))
local macro_rules | `(tactic| walk_at "meth1") => `(tactic| (refine meth_g (by assumption) (by assumption) (by assumption) (by assumption) (by with_unfolding_all rfl) (by with_unfolding_all rfl) (by with_unfolding_all rfl) ?_))
section
variable {w : World} {A : Around} {E : Value → Shared → Prop} {s : Shared} {mg mb : Str → Option Value}

theorem joined_length_spec {k : Nat} {g : Heap} {a l : Addr} {vs lv : List Value} {ks : List Nat} {ns : List Int} {Q : Value → Shared → Prop} (rm : Rm A (k + 1)) (W : Wd w mg mb g) (hg : Hk g s.heap)
    (ha : g.IsTuple a vs.toArray) (hvs : IntsAre vs (nats ks)) (hl : s.heap.IsList l lv.toArray) (hlv : IntsAre lv ns) (hk : ∀ k ∈ ks, k < ns.length) (hn : ns.length < 2 ^ 62)
    (hQ : ∀ t h' tk, Hk s.heap h' → Q (.int (jlen ns ks 0) t) { s with heap := h', toks := tk }) :
    wpAny (Md w) A (call (.ref 193) [.ref a, .ref l] []) Q E s := by
  refine callP [("symbols", .ref a), ("lengths", .ref l)] W hg rm (by rfl) (by rfl) (BindsTo.of_eq (by rfl)) (by rfl) (by rfl) (by rfl) (by rfl) (by rfl) (fun env L h₁ tk A' is0 he rm X => ?_)
  walk_at "lit"
  (walk_at "a0"; walk_at "a37"; walk_at "a18"; walk_at "a17"; walk_at "a2"; walk_at "a0"; walk_at "a62"; walk_at "a7")
  refine for_tuple (fun i g' m led => led = [] ∧ m "lengths" = some (.ref l) ∧ ∃ t a, m "total" = some (.int a t) ∧ jlen ns (ks.drop i) a = jlen ns ks 0) rm he (by rfl) (by assumption) ha (by simp) ⟨rfl, by walk_at "hv", _, _, by walk_at "hv", rfl⟩ ?_ ?_ (by intro f s' q; exact q)
  · rintro i v g' m' led' h tk it I E' hv hk' ⟨rfl, hm1, t, acc, hm2, hacc⟩ X
    obtain ⟨hi, t', rfl⟩ := nat_at hvs hv
    have hkn := hk _ (List.getElem_mem hi)
    rw [List.drop_eq_getElem_cons hi, jlen] at hacc
    (walk_at "a0"; walk_at "af"; walk_at "a25"; walk_at "a22"; walk_at "a7"; walk_at "a7")
    refine item_list_ints (Heap.IsList.hk hl X.k0) hlv (by omega) (by omega) (by omega) (fun t => ?_)
    (walk_at "a18"; walk_at "a40"; walk_at "a26")
    refine ifb (fun hlt => ?_) fun hlt => ?_
    · rw [Int.toNat_natCast] at hlt
      rw [if_pos hlt] at hacc
      (walk_at "a0"; walk_at "a36"; walk_at "a27"; walk_at "a18"; walk_at "a43"; walk_at "a3"; walk_at "a3"; walk_at "a6"; walk_at "a3")
      show Q (.int (-1) _) _
      rw [hacc]
      exact hQ _ _ _ X.k0
    · rw [Int.toNat_natCast] at hlt
      rw [if_neg hlt] at hacc
      (walk_at "a1"; walk_at "a2"; walk_at "a0"; walk_at "a37"; walk_at "a23"; walk_at "a7"; walk_at "a22"; walk_at "a7"; walk_at "a7")
      refine item_list_ints (Heap.IsList.hk hl X.k0) hlv (by omega) (by omega) (by omega) (fun t => ?_)
      (walk_at "a38"; walk_at "a17"; walk_at "a2"; walk_at "a1"; walk_at "a4")
      refine TurnEnd.mk (by assumption) (Hk.refl _) ⟨rfl, by walk_at "hv", _, _, by walk_at "hv", ?_⟩
      rw [Int.toNat_natCast]; exact hacc
  · rintro g' m' led' h tk hk' ⟨rfl, hm1, t, acc, hm2, hacc⟩ X
    (walk_at "a2"; walk_at "a0"; walk_at "a36"; walk_at "a7"; walk_at "a3")
    have : vs.length = ks.length := by have := hvs.length; simpa using this
    rw [this, List.drop_length, jlen] at hacc
    subst hacc
    exact hQ _ _ _ X.k0

theorem joined_words_spec {k : Nat} {g : Heap} {a l : Addr} {vs lv : List Value} {ks : List Nat} {wd : List (Option (List Nat))} {Q : Value → Shared → Prop} (rm : Rm A (k + 1)) (W : Wd w mg mb g) (hg : Hk g s.heap)
    (ha : IsSeq g a vs) (hvs : IntsAre vs (nats ks)) (hl : s.heap.IsList l lv.toArray) (hlv : WordsV g lv wd) (hk : ∀ k ∈ ks, k < wd.length) (hn : wd.length < 2 ^ 62) (hks : ks.length ≤ 1000)
    (hw : ∀ k ∈ ks, ∀ x, wd.getD k none = some x → x.length ≤ 10000)
    (hQ : ∀ v h' tk g', Out [] g s.heap g' h' → WordV g' v (jw wd ks []) → Q v { s with heap := h', toks := tk }) :
    wpAny (Md w) A (call (.ref 186) [.ref a, .ref l] []) Q E s := by
  refine callP [("symbols", .ref a), ("words", .ref l)] W hg rm (by rfl) (by rfl) (BindsTo.of_eq (by rfl)) (by rfl) (by rfl) (by rfl) (by rfl) (by rfl) (fun env L h₁ tk A' is0 he rm X => ?_)
  walk_at "lit"
  (walk_at "a0"; walk_at "a37"; walk_at "a58"; walk_at "a60")
  refine newTuple_g FrOk.nil (by assumption) (by decide) (fun e g1 h1 hk1 X1 he1 => ?_)
  (walk_at "a17"; walk_at "a2"; walk_at "a0"; walk_at "a62"; walk_at "a7")
  refine for_seq (fun i g' m led => led = [] ∧ m "words" = some (.ref l) ∧ ∃ t us acc, m "found" = some (.ref t) ∧ g'.IsTuple t us.toArray ∧ IntsAre us (nats acc) ∧ acc.length ≤ 10000 * i ∧ jw wd (ks.drop i) acc = jw wd ks []) rm he (by rfl) (by assumption) (ha.hk hk1) FrOk.nil ⟨rfl, by walk_at "hv", _, [], [], by walk_at "hv", he1, .nil, by simp, rfl⟩ ?_ ?_ (by intro f s' q; exact q)
  · rintro i v g' m' led' h tk it I E' hv hk' ⟨rfl, hm1, t, us, acc, hm2, hus, hia, hlen, hacc⟩ X
    obtain ⟨hi, t', rfl⟩ := nat_at hvs hv
    have hkn := hk _ (List.getElem_mem hi)
    rw [List.drop_eq_getElem_cons hi, jw] at hacc
    obtain ⟨v, hv, hvw⟩ := hlv.get hkn
    have hvw := hvw.hk (hk1.trans hk')
    (walk_at "a0"; walk_at "af"; walk_at "a25"; walk_at "a22"; walk_at "a7"; walk_at "a7")
    refine item_list (Heap.IsList.hk hl X.k0) (by omega) (by omega) (by rw [Int.toNat_natCast]; simpa using hv) ?_
    walk_at "a20"
    have hww := hw _ (List.getElem_mem hi)
    generalize hx : wd.getD ks[i] none = wx at *
    cases wx with
    | none =>
      cases hvw
      refine is_none_none ?_
      walk_at "a26"
      refine ift ?_
      (walk_at "a0"; walk_at "a36"; walk_at "a20"; walk_at "a3"; walk_at "a3"; walk_at "a6"; walk_at "a3")
      exact hQ _ _ _ _ X.toOut (by rw [← hacc]; rfl)
    | some x =>
      obtain ⟨b, xs, rfl, hxt, hxi⟩ := hvw
      refine is_none_ref ?_
      walk_at "a26"
      refine ifn ?_
      (walk_at "a1"; walk_at "a2"; walk_at "a0"; walk_at "a37"; walk_at "a23"; walk_at "a7"; walk_at "a22"; walk_at "a7"; walk_at "a7")
      refine item_list (Heap.IsList.hk hl X.k0) (by omega) (by omega) (by rw [Int.toNat_natCast]; simpa using hv) ?_
      have e1 := hia.length
      have e2 := hxi.length
      have e3 := hww x rfl
      refine add_tup FrOk.nil X hus hxt (by rw [sizeLine_eq]; simp at e1 e2; omega) (fun c g2 h2 hk2 X2 hc => ?_)
      (walk_at "a17"; walk_at "a2"; walk_at "a1"; walk_at "a4")
      refine TurnEnd.mk (by assumption) hk2 ⟨rfl, by walk_at "hv", _, _, acc ++ x, by walk_at "hv", hc, ?_, ?_, hacc⟩
      · rw [nats_append]; exact hia.append hxi
      · rw [List.length_append]; omega
  · rintro g' m' led' h tk hk' ⟨rfl, hm1, t, us, acc, hm2, hus, hia, hlen, hacc⟩ X
    (walk_at "a2"; walk_at "a0"; walk_at "a36"; walk_at "a7"; walk_at "a3")
    have : vs.length = ks.length := by have := hvs.length; simpa using this
    rw [this, List.drop_length, jw] at hacc
    exact hQ _ _ _ _ X.toOut (by rw [← hacc]; exact ⟨_, _, rfl, hus, hia⟩)
end
section
variable {w : World} {A : Around} {E : Value → Shared → Prop} {s : Shared} {mg mb : Str → Option Value}
variable {g : Heap} {x : Addr} {names : List Str} {tc : Nat} {rules : List (Nat × List Nat)} {fs : Str → Option Value} {an rn : Addr} {ns rs : List Value} {Q : Value → Shared → Prop}

theorem symbol_count_spec {k : Nat} (rm : Rm A (k + 1)) (W : Wd w mg mb g) (hg : Hk g s.heap) (G : GramAt g x names tc rules fs an rn ns rs)
    (hQ : ∀ t h' tk, Hk s.heap h' → Q (.int (names.length : Nat) t) { s with heap := h', toks := tk }) :
    wpAny (Md w) A (call (.ref 103) [.ref x] []) Q E s := by
  refine callP [("self", .ref x)] W hg rm (by rfl) (by rfl) (BindsTo.of_eq (by rfl)) (by rfl) (by rfl) (by rfl) (by rfl) (by rfl) (fun env L h₁ tk A' is0 he rm X => ?_)
  walk_at "lit"
  have o := G.obj; have n := G.hnames
  (walk_at "a0"; walk_at "a36"; walk_at "a50"; walk_at "a9"; walk_at "a54"; walk_at "a61"; walk_at "a56"; walk_at "a7")
  (walk_at "attr1"; walk_at "a60")
  refine len_list (PlainHk G.nat X.now).isList ?_ ?_
  · have := StrsAre.length G.sts; have := G.few; omega
  · intro t tk
    rw [StrsAre.length G.sts]
    exact hQ _ _ _ X.k0
theorem is_terminal_spec {k : Nat} {i : Int} {t : Tok} (rm : Rm A (k + 1)) (W : Wd w mg mb g) (hg : Hk g s.heap) (G : GramAt g x names tc rules fs an rn ns rs)
    (hQ : ∀ h' tk, Hk s.heap h' → Q (.bool (decide (i < tc))) { s with heap := h', toks := tk }) :
    wpAny (Md w) A (call (.ref 110) [.ref x, .int i t] []) Q E s := by
  refine callP [("self", .ref x), ("symbol", .int i t)] W hg rm (by rfl) (by rfl) (BindsTo.of_eq (by rfl)) (by rfl) (by rfl) (by rfl) (by rfl) (by rfl) (fun env L h₁ tk A' is0 he rm X => ?_)
  walk_at "lit"
  have o := G.obj; obtain ⟨t, n⟩ := G.htc
  (walk_at "a0"; walk_at "a36"; walk_at "a24"; walk_at "a7"; walk_at "a56"; walk_at "a7")
  (walk_at "attr1"; walk_at "a40"; walk_at "a3")
  exact hQ _ _ X.k0
/-- number: the place, or -1 -/
def numOf (names : List Str) (n : Str) : Int := if n ∈ names then (names.idxOf n : Nat) else -1
theorem number_spec {k : Nat} {n : Str} {t : Tok} (rm : Rm A (k + 1)) (W : Wd w mg mb g) (hg : Hk g s.heap) (G : GramAt g x names tc rules fs an rn ns rs)
    (hQ : ∀ t h' tk, Hk s.heap h' → Q (.int (numOf names n) t) { s with heap := h', toks := tk }) :
    wpAny (Md w) A (call (.ref 124) [.ref x, .str n t] []) Q E s := by
  refine callP [("self", .ref x), ("name", .str n t)] W hg rm (by rfl) (by rfl) (BindsTo.of_eq (by rfl)) (by rfl) (by rfl) (by rfl) (by rfl) (by rfl) (fun env L h₁ tk A' is0 he rm X => ?_)
  walk_at "lit"
  have o := G.obj; have n := G.hnames
  (walk_at "a0"; walk_at "a36"; walk_at "a28"; walk_at "a25"; walk_at "a7"; walk_at "a56"; walk_at "a7")
  walk_at "attr1"
  refine in_strs (PlainHk G.nat X.now).isList G.sts ?_
  walk_at "a26"
  refine ifb (fun hin => ?_) fun hin => ?_
  · (walk_at "a49"; walk_at "a56"; walk_at "a7")
    walk_at "attr1"
    refine meth_list (PlainHk G.nat X.now) PySem.F.slot_list_index PySem.F.type_list_index ?_
    (walk_at "a54"; walk_at "a61"; walk_at "a7"; walk_at "a60")
    refine index_strs (PlainHk G.nat X.now) G.sts hin (by have := G.few; omega) (fun u => ?_)
    have := hQ u h₁ 
    rw [numOf, if_pos hin] at this
    exact this _ X.k0
  · (walk_at "a27"; walk_at "a18"; walk_at "a43"; walk_at "a3")
    have := fun t => hQ t h₁ 
    rw [numOf, if_neg hin] at this
    exact this _ _ X.k0
theorem last_terminal_spec {k : Nat} {a : Addr} {vs : List Value} {ks : List Nat} {c : Int} {t : Tok} (rm : Rm A (k + 1)) (W : Wd w mg mb g) (hg : Hk g s.heap) (ha : g.IsTuple a vs.toArray) (hvs : IntsAre vs (nats ks))
    (hQ : ∀ v h' tk, Hk s.heap h' → handedIn v = true → Q v { s with heap := h', toks := tk }) :
    wpAny (Md w) A (call (.ref 173) [.ref a, .int c t] []) Q E s := by
  refine callP [("right", .ref a), ("terminal_count", .int c t)] W hg rm (by rfl) (by rfl) (BindsTo.of_eq (by rfl)) (by rfl) (by rfl) (by rfl) (by rfl) (by rfl) (fun env L h₁ tk A' is0 he rm X => ?_)
  walk_at "lit"
  (walk_at "a0"; walk_at "a37"; walk_at "a27"; walk_at "a18"; walk_at "a43"; walk_at "a17"; walk_at "a2"; walk_at "a0"; walk_at "a62"; walk_at "a7")
  refine for_tuple (fun i g' m led => led = [] ∧ m "terminal_count" = some (.int c t) ∧ ∃ a t, m "found" = some (.int a t)) rm he (by rfl) (by assumption) ha FrOk.nil ⟨rfl, by walk_at "hv", _, _, by walk_at "hv"⟩ ?_ ?_ (by intro f s' q; exact q)
  · rintro i v g' m' led' h tk it I E' hv hk' ⟨rfl, hm1, a, t, hm2⟩ X
    obtain ⟨hi, t', rfl⟩ := nat_at hvs hv
    (walk_at "a0"; walk_at "af"; walk_at "a25"; walk_at "a7"; walk_at "a7"; walk_at "a40"; walk_at "a26")
    refine ifb (fun hlt => ?_) fun hlt => ?_
    · (walk_at "a0"; walk_at "a37"; walk_at "a7"; walk_at "a17"; walk_at "a2"; walk_at "a1"; walk_at "a2"; walk_at "a1"; walk_at "a4")
      exact TurnEnd.mk (by assumption) (Hk.refl _) ⟨rfl, by walk_at "hv", _, _, by walk_at "hv"⟩
    · (walk_at "a1"; walk_at "a2"; walk_at "a1"; walk_at "a4")
      exact TurnEnd.mk (by assumption) (Hk.refl _) ⟨rfl, by walk_at "hv", _, _, by walk_at "hv"⟩
  · rintro g' m' led' h tk hk' ⟨rfl, hm1, a, t, hm2⟩ X
    (walk_at "a2"; walk_at "a0"; walk_at "a36"; walk_at "a7"; walk_at "a3")
    exact hQ _ _ _ X.k0 rfl
end
section
variable {w : World} {A : Around} {E : Value → Shared → Prop} {s : Shared} {mg mb : Str → Option Value}
variable {g : Heap} {x : Addr} {names : List Str} {tc : Nat} {rules : List (Nat × List Nat)} {fs : Str → Option Value} {an rn : Addr} {ns rs : List Value} {Q : Value → Shared → Prop}

theorem least_rules_spec {k : Nat} (rm : Rm A (k + 2)) (W : Wd w mg mb g) (hg : Hk g s.heap) (G : GramAt g x names tc rules fs an rn ns rs)
    (hwf : ∀ p ∈ rules, p.1 < names.length ∧ ∀ j ∈ p.2, j < names.length) (N : Nat) (hN : changes rules (passes rules (initL names.length tc, []) N) = false)
    (hQ : ∀ v h' tk g' t l d lv i, Out [] g s.heap g' h' → v = .ref t → g'.IsTuple t #[.ref l, .ref d] → g'.IsList l lv.toArray → IntsAre lv (passes rules (initL names.length tc, []) i).1 →
      (∃ o, g'.get? d = some o ∧ isDI w (kvC rs (passes rules (initL names.length tc, []) i).2) o) → (d == sysModules) = false → changes rules (passes rules (initL names.length tc, []) i) = false → Q v { s with heap := h', toks := tk }) :
    wpAny (Md w) A (call (.ref 200) [.ref x] []) Q E s := by
  refine callP [("grammar", .ref x)] W hg rm (by rfl) (by rfl) (BindsTo.of_eq (by rfl)) (by rfl) (by rfl) (by rfl) (by rfl) (by rfl) (fun env L h₁ tk A' is0 he rm X => ?_)
  walk_at "lit"
  have o := G.obj; have n1 := G.n1
  (walk_at "a0"; walk_at "a37"; walk_at "a59"; walk_at "a60")
  refine newList_l X (by decide) (fun l h1 hl1 X => ?_)
  (walk_at "a17"; walk_at "a2"; walk_at "a0"; walk_at "a62"; walk_at "a50"; walk_at "a11"; walk_at "a53"; walk_at "a61"; walk_at "a49"; walk_at "a7")
  (walk_at "meth1"; walk_at "a52")
  refine symbol_count_spec rm W (by walk_at "now") G (fun t h' tk hk => ?_)
  have X := Fx.keeps (by assumption) hk
  walk_at "a60"
  refine range_g FrOk.nil X (fun r g1 h2 tk2 t u v hk1 X hr => ?_)
  have G := G.hk hk1; have W := W.mono hk1
  refine for_range (n := names.length) (fun i g' m led => ∃ vs, led = [(l, isPl vs)] ∧ m "lengths" = some (.ref l) ∧ m "grammar" = some (.ref x) ∧ IntsAre vs ((initL names.length tc).take i)) rm he (by rfl) X (X.now _ _ hr) (by have := G.few; omega) FrOk.nil
    ⟨[], rfl, by walk_at "hv", by walk_at "hv", .nil⟩ ?_ ?_ (by intro f s' q; exact q)
  · rintro i g' m' led' h tk it I E' t hi hk' ⟨vs, rfl, hm1, hm2, hvs⟩ X
    have G := G.hk hk'; have W := W.mono hk'
    have o := G.obj; have n2 := G.n2
    have hlen := hvs.length
    rw [List.length_take] at hlen
    have hfew := G.few
    have hil : (initL names.length tc).length = names.length := by simp [initL]
    have fin : ∀ {h2 : Heap} {t2 : Tok} {c : Int} {s2 : Shared}, Fx [] g s.heap g' L h2 (mset m' "symbol" (.int (i : Nat) t)) [(l, isPl (vs ++ [.int c t2])), (I, it)] → c = (if i < tc ∧ i ≠ 1 then 1 else -1) → (∃ tk, s2 = { s with heap := h2, toks := tk }) →
        TurnEnd [] g s.heap L I it g' (fun g' m led => ∃ vs, led = [(l, isPl vs)] ∧ m "lengths" = some (.ref l) ∧ m "grammar" = some (.ref x) ∧ IntsAre vs ((initL names.length tc).take (i + 1))) s s2 := by
      rintro h2 t2 c s2 X2 hc ⟨tk2, rfl⟩
      refine TurnEnd.mk X2.swap (Hk.refl _) ⟨_, rfl, by walk_at "hv", by walk_at "hv", ?_⟩
      rw [initL_take hi, ← hc]
      exact hvs.append (.cons _ _ .nil)
    (walk_at "a0"; walk_at "a57"; walk_at "a49"; walk_at "a7")
    refine meth_list (X.pl (vs := vs) (by simp)) PySem.F.slot_list_append PySem.F.type_list_append ?_
    (walk_at "a54"; walk_at "a61"; walk_at "a28"; walk_at "a29"; walk_at "a30"; walk_at "a35"; walk_at "a49"; walk_at "a7")
    (walk_at "meth1"; walk_at "a51"; walk_at "a61"; walk_at "a7"; walk_at "a60"; walk_at "a55")
    refine is_terminal_spec (k := k) rm W (by walk_at "now") G (fun h' tk hk => ?_)
    have X := Fx.keeps (by assumption) hk
    walk_at "a26"
    refine ifb (fun h1 => ?_) fun h1 => ?_
    · (walk_at "a30"; walk_at "a25"; walk_at "a7"; walk_at "a8"; walk_at "a44"; walk_at "a26")
      refine iff_ (fun h2 => ?_) fun h2 => ?_
      · walk_at "a31"
        refine ift ?_
        (walk_at "a18"; walk_at "a60")
        refine append0 (vs := vs) (by exact X.swap) (by rw [sizeLine_eq]; omega) (fun h3 X => ?_)
        (walk_at "a2"; walk_at "a1"; walk_at "a4")
        refine fin X ?_ ⟨_, rfl⟩
        rw [if_pos ⟨by omega, fun q => by subst q; simp at h2⟩]
      · skip
        refine ifn ?_
        (walk_at "a27"; walk_at "a18"; walk_at "a43"; walk_at "a60")
        refine append0 (vs := vs) (by exact X.swap) (by rw [sizeLine_eq]; omega) (fun h3 X => ?_)
        (walk_at "a2"; walk_at "a1"; walk_at "a4")
        refine fin X ?_ ⟨_, rfl⟩
        rw [if_neg (by rintro ⟨_, q⟩; have : (i : Int) = 1 := by simpa using h2
                       omega)]
    · refine ifn ?_
      (walk_at "a27"; walk_at "a18"; walk_at "a43"; walk_at "a60")
      refine append0 (vs := vs) (by exact X.swap) (by rw [sizeLine_eq]; omega) (fun h3 X => ?_)
      (walk_at "a2"; walk_at "a1"; walk_at "a4")
      refine fin X ?_ ⟨_, rfl⟩
      rw [if_neg (by rintro ⟨_, q⟩; omega)]
  · rintro g' m' led' h tk hk' ⟨vs, rfl, hm1, hm2, hvs⟩ X
    have G := G.hk hk'; have W := W.mono hk'
    (walk_at "a2"; walk_at "a0"; walk_at "a37")
    refine newDict_l (IK w) (by assumption) W (fun d h1 hd1 hds X => ?_)
    have hlen := hvs.length
    have hil : (initL names.length tc).length = names.length := by simp [initL]
    rw [List.take_of_length_le (Nat.le_of_eq hil)] at hvs
    have hfew := G.few
    have X := X.swap.imp0 (fun o p => p.lst)
    have X := X.swap
    (walk_at "a17"; walk_at "a2"; walk_at "a0"; walk_at "a37"; walk_at "a21"; walk_at "a17"; walk_at "a2"; walk_at "a0"; walk_at "a63")
    refine while_fx (N + 2) (fun n g' m led => ∃ i lv b, led = [(d, isDI w (kvC rs (passes rules (initL names.length tc, []) i).2)), (l, isLst lv)] ∧ IntsAre lv (passes rules (initL names.length tc, []) i).1 ∧ m "lengths" = some (.ref l) ∧ m "grammar" = some (.ref x) ∧
      m "chosen" = some (.ref d) ∧ m "is_changed" = some (.bool b) ∧ (b = true → n = N + 2 - i ∧ i ≤ N) ∧ (b = false → changes rules (passes rules (initL names.length tc, []) i) = false)) (by assumption)
      ⟨0, vs, true, rfl, hvs, by walk_at "hv", by walk_at "hv", by walk_at "hv", by walk_at "hv", fun _ => ⟨rfl, Nat.zero_le _⟩, fun h => by cases h⟩ ?_ (by intro f s' q; exact q)
    rintro n g2 m2 led2 h2 tk2 E' hk2 ⟨i, lv, b, rfl, hlv, hm1, hm2, hm3, hm4, hb1, hb2⟩ X
    have G := G.hk hk2; have W := W.mono hk2
    have o := G.obj; have n3 := G.hrules
    (walk_at "a35"; walk_at "a7"; walk_at "a26")
    cases b with
    | false =>
      refine ifn ?_
      (walk_at "a2"; walk_at "a0"; walk_at "a36"; walk_at "a58"; walk_at "a61"; walk_at "a7"; walk_at "a61"; walk_at "a7"; walk_at "a60")
      obtain ⟨g3, hk3, ⟨od, hod, hpd⟩, X⟩ := X.freeze (by simp)
      obtain ⟨g4, hk4, ⟨ol, hol, hpl⟩, X⟩ := X.freeze (by simp)
      refine newTuple_g FrOk.nil (by assumption) (by simp [sizeLine_eq]) (fun t g5 h5 hk5 X ht => ?_)
      walk_at "a3"
      exact hQ _ _ _ g5 t l d lv i X.toOut rfl ht (Heap.IsList.hk (listOf ⟨ol, hol, hpl⟩) hk5) hlv ⟨od, hk5 _ _ (hk4 _ _ hod), hpd⟩ hds (hb2 rfl)
    | true =>
      obtain ⟨hn, hiN⟩ := hb1 rfl
      refine ift ?_
      (walk_at "a0"; walk_at "a37"; walk_at "a21"; walk_at "a17"; walk_at "a2"; walk_at "a0"; walk_at "a62"; walk_at "a56"; walk_at "a7")
      walk_at "attr1"
      have hst := passes_len (rules := rules) (st := (initL names.length tc, [])) i
      rw [hil] at hst
      have hok := passes_ok (n := names.length) (rules := rules) (st := (initL names.length tc, [])) (fun p hp => (hwf p hp).1) ⟨List.nodup_nil, fun p hp => nomatch hp⟩ i
      generalize hS : passes rules (initL names.length tc, []) i = S at *
      obtain ⟨L0, C0⟩ := S
      simp only at hst hlv hok
      refine for_list (fun j g' m led => ∃ lv L C b, rpass (rules.take j) 0 (L0, C0, false) = (L, C, b) ∧ led = [(d, isDI w (kvC rs C)), (l, isLst lv)] ∧ IntsAre lv L ∧ m "lengths" = some (.ref l) ∧ m "grammar" = some (.ref x) ∧
        m "chosen" = some (.ref d) ∧ m "is_changed" = some (.bool b) ∧ Cok names.length C) rm he (by rfl) (by assumption) G.rat FrOk.nil ⟨lv, L0, C0, false, rfl, rfl, hlv, by walk_at "hv", by walk_at "hv", by walk_at "hv", by walk_at "hv", hok⟩ ?_ ?_ (by intro f s' q; exact q)
      · rintro j v g3 m3 led3 h3 tk3 it I E3 hv hk3 ⟨lv, L1, C1, b, hp, rfl, hlv, hm1, hm2, hm3, hm4, hC⟩ X
        obtain ⟨hj, xr, fsr, tl, ar, rv, rfl, or, hl_, hr_, har, hrv, _⟩ := G.rare.at hv
        have W := W.mono hk3
        have or := or.hk hk3
        have har := Heap.IsTuple.hk har hk3
        have hr1 := hwf _ (List.getElem_mem hj)
        have hL1 : L1.length = names.length := by
          have := rpass_len (rules := rules.take j) (i := 0) (st := (L0, C0, false))
          rw [hp] at this; simpa [hst] using this
        (walk_at "a0"; walk_at "a37"; walk_at "a50"; walk_at "a8"; walk_at "a51"; walk_at "a61"; walk_at "a56"; walk_at "a7")
        (walk_at "attr1"; walk_at "a61"; walk_at "a7"; walk_at "a60"; walk_at "a55")
        refine joined_length_spec (k := k) rm W (by walk_at "now") har hrv (by exact X.lst (vs := lv) (by simp)) hlv (by rw [hL1]; exact hr1.2) (by rw [hL1]; have := G.few; omega) (fun t h' tk hk => ?_)
        have X := Fx.keeps (by assumption) hk
        generalize hJ : jlen L1 rules[j].2 0 = J at *
        have hfew := G.few
        have hlv1 := hlv.length
        have noch : ¬ (0 ≤ J ∧ (L1.getD rules[j].1 0 < 0 ∨ J < L1.getD rules[j].1 0)) → rpass (rules.take (j + 1)) 0 (L0, C0, false) = (L1, C1, b) := fun hc => by
          rw [rpass_take hj _ _ _ hp]
          unfold rstep
          rw [hJ, if_neg hc, Bool.or_false]
        have ch : (0 ≤ J ∧ (L1.getD rules[j].1 0 < 0 ∨ J < L1.getD rules[j].1 0)) → rpass (rules.take (j + 1)) 0 (L0, C0, false) = (L1.set rules[j].1 J, C1.filter (fun p => decide (p.1 ≠ rules[j].1)) ++ [(rules[j].1, j)], true) := fun hc => by
          rw [rpass_take hj _ _ _ hp]
          unfold rstep
          rw [hJ, if_pos hc, Bool.or_true]
        (walk_at "a17"; walk_at "a2"; walk_at "a0")
        rename_i h5 X tk5
        refine wpAny_If ?_
        refine wpAny_mono (Q := fun c s2 => c = decide (0 ≤ J ∧ (L1.getD rules[j].1 0 < 0 ∨ J < L1.getD rules[j].1 0)) ∧ ∃ tk, s2 = { s with heap := h5, toks := tk }) ?_ ?_ (fun _ _ e => e)
        · (walk_at "a29"; walk_at "a30"; walk_at "a25"; walk_at "a7"; walk_at "a18"; walk_at "a45"; walk_at "a26")
          refine ifb (fun h1 => ?_) fun h1 => ?_
          · (walk_at "a30"; walk_at "a29"; walk_at "a32"; walk_at "a25"; walk_at "a22"; walk_at "a7"; walk_at "a56"; walk_at "a7")
            walk_at "attr1"
            refine item_list_ints (by exact X.lst (vs := lv) (by simp)) hlv (by omega) (by omega) (by omega) (fun t => ?_)
            rw [Int.toNat_natCast]
            (walk_at "a18"; walk_at "a40"; walk_at "a26")
            refine ifb (fun h2 => ?_) fun h2 => ?_
            · refine ift ?_
              walk_at "a31"
              exact ⟨(decide_eq_true ⟨h1, .inl h2⟩).symm, _, rfl⟩
            · (walk_at "a32"; walk_at "a25"; walk_at "a7"; walk_at "a22"; walk_at "a7"; walk_at "a56"; walk_at "a7")
              walk_at "attr1"
              refine item_list_ints (by exact X.lst (vs := lv) (by simp)) hlv (by omega) (by omega) (by omega) (fun t => ?_)
              rw [Int.toNat_natCast]
              (walk_at "a40"; walk_at "a26")
              refine ifb (fun h3 => ?_) fun h3 => ?_
              · refine ift ?_
                walk_at "a31"
                exact ⟨(decide_eq_true ⟨h1, .inr h3⟩).symm, _, rfl⟩
              · walk_at "a33"
                refine ifn ?_
                exact ⟨(decide_eq_false fun q => q.2.elim h2 h3).symm, _, rfl⟩
          · exact ⟨(decide_eq_false fun q => h1 q.1).symm, _, rfl⟩
        · rintro c s2 ⟨rfl, tk4, rfl⟩
          refine ifb (fun hc => ?_) fun hc => ?_
          · (walk_at "a0"; walk_at "a48"; walk_at "a7"; walk_at "a7"; walk_at "a56"; walk_at "a7")
            walk_at "attr1"
            refine setItem0 (vs := lv) (by exact X.rot) (by omega) (by omega) (by omega) (fun h4 X => ?_)
            (walk_at "a2"; walk_at "a0"; walk_at "a57"; walk_at "a49"; walk_at "a7")
            have hlk : (kvC rs C1).length ≤ 1000 := by
              have := hC.len
              unfold kvC; rw [List.length_map]; omega
            refine meth_dict (knd := IK w) (kvs := kvC rs C1) (by exact X.at (P := isDI w (kvC rs C1)) (by simp)) PySem.F.slot_dict_pop PySem.F.type_dict_pop ?_
            (walk_at "a54"; walk_at "a61"; walk_at "a56"; walk_at "a7")
            (walk_at "attr1"; walk_at "a61"; walk_at "a20"; walk_at "a60")
            refine dpop0 (knd := IK w) (ik w _ _) (by rfl) hlk hds (by exact X.rot) (fun u h5 X => ?_)
            (walk_at "a2"; walk_at "a0"; walk_at "a48"; walk_at "a7"; walk_at "a7"; walk_at "a56"; walk_at "a7")
            walk_at "attr1"
            refine dset0 (knd := IK w) (ik w _ _) (Nat.le_trans (List.length_filter_le _ _) hlk) (by exact X) (fun h6 X => ?_)
            have e : stored (without (kvC rs C1) (rules[j].1 : Int)) (rules[j].1 : Int) (.ref xr) = kvC rs (C1.filter (fun p => decide (p.1 ≠ rules[j].1)) ++ [(rules[j].1, j)]) := by rw [kvC_without, stored_kvC rs C1 _ j _ hv]
            have X := X.imp0 (P' := isDI w (kvC rs (C1.filter (fun p => decide (p.1 ≠ rules[j].1)) ++ [(rules[j].1, j)]))) (fun o p => by rw [← e]; exact p)
            (walk_at "a2"; walk_at "a0"; walk_at "a37"; walk_at "a21"; walk_at "a17"; walk_at "a2"; walk_at "a1"; walk_at "a2"; walk_at "a1"; walk_at "a4")
            refine TurnEnd.mk (Fx.rot (by assumption)) (Hk.refl _) ⟨_, _, _, true, ch hc, rfl, IntsAre_set hlv _ _ _, by walk_at "hv", by walk_at "hv", by walk_at "hv", by walk_at "hv", hC.put hr1.1⟩
          · (walk_at "a1"; walk_at "a2"; walk_at "a1"; walk_at "a4")
            exact TurnEnd.mk (by assumption) (Hk.refl _) ⟨lv, L1, C1, b, noch hc, rfl, hlv, by walk_at "hv", by walk_at "hv", by walk_at "hv", by walk_at "hv", hC⟩
      · rintro g3 m3 led3 h3 tk3 hk3 ⟨lv, L1, C1, b, hp, rfl, hlv, hm1, hm2, hm3, hm4, hC⟩ X
        rw [G.rare.1, List.take_length] at hp
        have hps : pass rules (L0, C0) = (L1, C1) := by unfold pass; rw [hp]
        have hcs : changes rules (L0, C0) = b := by unfold changes; rw [hp]
        (walk_at "a2"; walk_at "a1"; walk_at "a5")
        cases b with
        | true =>
          have hne : i ≠ N := fun q => by subst q; rw [hS] at hN; rw [hN] at hcs; cases hcs
          refine WhileEnd.mk (n' := N + 2 - (i + 1)) (by omega) hk3 X ⟨i + 1, lv, true, ?_, ?_, hm1, hm2, hm3, hm4, fun _ => ⟨rfl, by omega⟩, fun h => (by cases h)⟩
          · show _ = [(d, isDI w (kvC rs (pass rules (passes rules (initL names.length tc, []) i)).2)), _]
            rw [hS, hps]
          · show IntsAre lv (pass rules (passes rules (initL names.length tc, []) i)).1
            rw [hS, hps]; exact hlv
        | false =>
          have := pass_same hcs
          rw [hps] at this
          cases this
          refine WhileEnd.mk (n' := 0) (by omega) hk3 X ⟨i, lv, false, ?_, ?_, hm1, hm2, hm3, hm4, fun h => (by cases h), fun _ => (by rw [hS]; exact hcs)⟩
          · rw [hS]
          · rw [hS]; exact hlv
end
section
variable {w : World} {A : Around} {E : Value → Shared → Prop} {s : Shared} {mg mb : Str → Option Value}
variable {g : Heap} {x : Addr} {names : List Str} {tc : Nat} {rules : List (Nat × List Nat)} {fs : Str → Option Value} {an rn : Addr} {ns rs : List Value} {Q : Value → Shared → Prop}

theorem least_words_spec {k : Nat} (rm : Rm A (k + 3)) (W : Wd w mg mb g) (hg : Hk g s.heap) (G : GramAt g x names tc rules fs an rn ns rs)
    (hwf : ∀ p ∈ rules, p.1 < names.length ∧ p.2.length ≤ 1000 ∧ ∀ j ∈ p.2, j < names.length) (N : Nat) (hN : changes rules (passes rules (initL names.length tc, []) N) = false)
    (hsm : ∀ i, changes rules (passes rules (initL names.length tc, []) i) = false → ∀ j, Wsm (wfold rules (passes rules (initL names.length tc, []) i).1 ((passes rules (initL names.length tc, []) i).2.take j) (initW names.length tc)))
    (hQ : ∀ v h' tk g' a wv i, Out [] g s.heap g' h' → v = .ref a → g'.IsList a wv.toArray → changes rules (passes rules (initL names.length tc, []) i) = false →
      WordsV g' wv (wfold rules (passes rules (initL names.length tc, []) i).1 (passes rules (initL names.length tc, []) i).2 (initW names.length tc)) → Q v { s with heap := h', toks := tk }) :
    wpAny (Md w) A (call (.ref 207) [.ref x] []) Q E s := by
  refine callP [("grammar", .ref x)] W hg rm (by rfl) (by rfl) (BindsTo.of_eq (by rfl)) (by rfl) (by rfl) (by rfl) (by rfl) (by rfl) (fun env L h₁ tk A' is0 he rm X => ?_)
  walk_at "lit"
  (walk_at "a0"; walk_at "a46"; walk_at "a50"; walk_at "a8"; walk_at "a51"; walk_at "a61"; walk_at "a7"; walk_at "a60"; walk_at "a55")
  refine least_rules_spec (k := k) rm W (by walk_at "now") G (fun p hp => ⟨(hwf p hp).1, (hwf p hp).2.2⟩) N hN (fun v h' tk g1 t l d lv i O hv ht hl hlv hd hds hch => ?_)
  subst hv
  have hk1 : Hk g g1 := O.old
  have X := Fx.out (by assumption) O
  have W := W.mono hk1; have G := G.hk hk1
  skip
  refine assign2 rm (by exact X) ht (fun h' X => ?_)
  (walk_at "a17"; walk_at "a17"; walk_at "a2"; walk_at "a0"; walk_at "a37"; walk_at "a59"; walk_at "a60")
  refine newList_l (by assumption) (by simp [sizeLine_eq]) (fun lw h1 hl1 X => ?_)
  have o := G.obj; have n1 := G.n1
  (walk_at "a17"; walk_at "a2"; walk_at "a0"; walk_at "a62"; walk_at "a50"; walk_at "a11"; walk_at "a53"; walk_at "a61"; walk_at "a49"; walk_at "a7")
  (walk_at "meth1"; walk_at "a52")
  refine symbol_count_spec (k := k + 1) rm W (by walk_at "now") G (fun t h' tk hk => ?_)
  have X := Fx.keeps (by assumption) hk
  walk_at "a60"
  refine range_g FrOk.nil X (fun r g2 h2 tk2 t u v hk2 X hr => ?_)
  have G := G.hk hk2; have W := W.mono hk2
  have hl := Heap.IsList.hk hl hk2
  obtain ⟨od, hod, hpd⟩ := hd
  have hod := hk2 _ _ hod
  refine for_range (n := names.length) (fun i g' m led => ∃ vs, led = [(lw, isPl vs)] ∧ m "lengths" = some (.ref l) ∧ m "words" = some (.ref lw) ∧ m "chosen" = some (.ref d) ∧ m "grammar" = some (.ref x) ∧ WordsV g' vs ((initW names.length tc).take i)) rm he (by rfl) X (X.now _ _ hr) (by have := G.few; omega) FrOk.nil
    ⟨[], rfl, by walk_at "hv", by walk_at "hv", by walk_at "hv", by walk_at "hv", rfl, fun i h => nomatch h⟩ ?_ ?_ (by intro f s' q; exact q)
  · rintro i g' m' led' h tk it I E' t hi hk' ⟨vs, rfl, hm1, hm2, hm3, hm4, hvs⟩ X
    have G := G.hk hk'; have W := W.mono hk'
    have o := G.obj; have n2 := G.n2
    have hlen := hvs.1
    rw [List.length_take, initW_len] at hlen
    have hfew := G.few
    have fin : ∀ {h2 : Heap} {g3 : Heap} {c : Value} {s2 : Shared}, Fx [] g s.heap g3 L h2 (mset m' "symbol" (.int (i : Nat) t)) [(lw, isPl (vs ++ [c])), (I, it)] → Hk g' g3 → WordV g3 c (if i < tc ∧ i ≠ 1 then some [i] else none) → (∃ tk, s2 = { s with heap := h2, toks := tk }) →
        TurnEnd [] g s.heap L I it g' (fun g' m led => ∃ vs, led = [(lw, isPl vs)] ∧ m "lengths" = some (.ref l) ∧ m "words" = some (.ref lw) ∧ m "chosen" = some (.ref d) ∧ m "grammar" = some (.ref x) ∧ WordsV g' vs ((initW names.length tc).take (i + 1))) s s2 := by
      rintro h2 g3 c s2 X2 hk3 hc ⟨tk2, rfl⟩
      refine TurnEnd.mk X2.swap hk3 ⟨_, rfl, by walk_at "hv", by walk_at "hv", by walk_at "hv", by walk_at "hv", ?_⟩
      rw [initW_take hi]
      exact WordsV_snoc (hvs.hk hk3) hc
    (walk_at "a0"; walk_at "a57"; walk_at "a49"; walk_at "a7")
    refine meth_list (X.pl (vs := vs) (by simp)) PySem.F.slot_list_append PySem.F.type_list_append ?_
    (walk_at "a54"; walk_at "a61"; walk_at "a28"; walk_at "a29"; walk_at "a30"; walk_at "a35"; walk_at "a49"; walk_at "a7")
    (walk_at "meth1"; walk_at "a51"; walk_at "a61"; walk_at "a7"; walk_at "a60"; walk_at "a55")
    refine is_terminal_spec (k := k + 1) rm W (by walk_at "now") G (fun h' tk hk => ?_)
    have X := Fx.keeps (by assumption) hk
    walk_at "a26"
    refine ifb (fun h1 => ?_) fun h1 => ?_
    · (walk_at "a30"; walk_at "a25"; walk_at "a7"; walk_at "a8"; walk_at "a44"; walk_at "a26")
      refine iff_ (fun h2 => ?_) fun h2 => ?_
      · walk_at "a31"
        refine ift ?_
        (walk_at "a58"; walk_at "a61"; walk_at "a7"; walk_at "a60")
        refine newTuple_g FrOk.nil (by exact X) (by simp [sizeLine_eq]) (fun b g3 h3 hk3 X hb => ?_)
        walk_at "a60"
        refine append0 (vs := vs) (by exact X.swap) (by rw [sizeLine_eq]; omega) (fun h3 X => ?_)
        (walk_at "a2"; walk_at "a1"; walk_at "a4")
        refine fin X hk3 ?_ ⟨_, rfl⟩
        rw [if_pos ⟨by omega, fun q => by subst q; simp at h2⟩]
        exact ⟨_, _, rfl, hb, .cons _ _ .nil⟩
      · skip
        refine ifn ?_
        (walk_at "a20"; walk_at "a60")
        refine append0 (vs := vs) (by exact X.swap) (by rw [sizeLine_eq]; omega) (fun h3 X => ?_)
        (walk_at "a2"; walk_at "a1"; walk_at "a4")
        refine fin X (Hk.refl _) ?_ ⟨_, rfl⟩
        rw [if_neg (by rintro ⟨_, q⟩; have : (i : Int) = 1 := by simpa using h2
                       omega)]
        rfl
    · refine ifn ?_
      (walk_at "a20"; walk_at "a60")
      refine append0 (vs := vs) (by exact X.swap) (by rw [sizeLine_eq]; omega) (fun h3 X => ?_)
      (walk_at "a2"; walk_at "a1"; walk_at "a4")
      refine fin X (Hk.refl _) ?_ ⟨_, rfl⟩
      rw [if_neg (by rintro ⟨_, q⟩; omega)]
      rfl
  · rintro g3 m' led' h tk hk3 ⟨vs, rfl, hm1, hm2, hm3, hm4, hvs⟩ X
    have G := G.hk hk3; have W := W.mono hk3
    have hl := Heap.IsList.hk hl hk3
    have hod := hk3 _ _ hod
    have hok := passes_ok (n := names.length) (rules := rules) (st := (initL names.length tc, [])) (fun p hp => (hwf p hp).1) ⟨List.nodup_nil, fun p hp => nomatch hp⟩ i
    have hrl := passes_rl (rules := rules) (st := (initL names.length tc, [])) (fun p hp => nomatch hp) i
    have hst := passes_len (rules := rules) (st := (initL names.length tc, [])) i
    have hsm := hsm i hch
    have hQ := fun v h' tk g' a wv => hQ v h' tk g' a wv i
    generalize passes rules (initL names.length tc, []) i = S at *
    obtain ⟨L1, C1⟩ := S
    simp only at hok hrl hlv hpd hsm hQ hst
    have hL1 : L1.length = names.length := by rw [hst]; simp [initL]
    rw [List.take_of_length_le (by rw [initW_len]; exact Nat.le_refl _)] at hvs
    have hfew := G.few
    have X := X.imp0 (fun o p => p.lst)
    (walk_at "a2"; walk_at "a0"; walk_at "a62"; walk_at "a7")
    refine for_dict (knd := IK w) (kvs := kvC rs C1) (fun j g' m led => ∃ wv, led = [(lw, isLst wv)] ∧ m "lengths" = some (.ref l) ∧ m "words" = some (.ref lw) ∧ m "chosen" = some (.ref d) ∧ WordsV g' wv (wfold rules L1 (C1.take j) (initW names.length tc))) rm he (by rfl) (by assumption) ⟨od, hod, hpd⟩ hds FrOk.nil
      ⟨vs, rfl, by walk_at "hv", by walk_at "hv", by walk_at "hv", hvs⟩ ?_ ?_ (by intro f s' q; exact q)
    · rintro j v g4 m4 led4 h4 tk4 it I E4 kk x' hkv hkey hk4 ⟨wv, rfl, hm1, hm2, hm3, hwv⟩ X
      obtain ⟨p, hp, rfl, rfl⟩ := kvC_get hkv
      have hpm := List.mem_of_getElem? hp
      obtain ⟨rr, hrr⟩ := hrl p hpm
      have hpl := hok.2 p hpm
      obtain ⟨tk5, rfl⟩ : ∃ t, v = .int (p.1 : Nat) t := by
        cases v <;> simp [intKind, Value.isInt] at hkey
        subst hkey; exact ⟨_, rfl⟩
      have hlvl := hlv.length
      have hsj := hsm j
      have hWl := wfold_len (rules := rules) (L := L1) (C := C1.take j) (W := initW names.length tc)
      rw [initW_len] at hWl
      have W := W.mono hk4
      (walk_at "a0"; walk_at "af"; walk_at "a25"; walk_at "a22"; walk_at "a7"; walk_at "a7")
      refine item_list_ints (by exact Heap.IsList.hk hl (hk4.trans X.now)) hlv (by omega) (by omega) (by omega) (fun t => ?_)
      rw [Int.toNat_natCast]
      (walk_at "a8"; walk_at "a41"; walk_at "a26")
      refine ifb (fun hle => ?_) fun hle => ?_
      · (walk_at "a0"; walk_at "a48"; walk_at "a50"; walk_at "a8"; walk_at "a51"; walk_at "a61"; walk_at "a56"; walk_at "a22"; walk_at "a7"; walk_at "a7")
        have hva := kvC_valueAt (rs := rs) hok.1 hp
        refine item_dict (knd := IK w) (kvs := kvC rs C1) (ik w _ _) (by exact ⟨od, X.now _ _ (hk4 _ _ hod), hpd⟩) hva ?_ (by with_unfolding_all rfl)
        have hpr : p.2 < rs.length := by rw [G.rare.1]; exact (List.getElem?_eq_some_iff.mp hrr).1
        obtain ⟨hj', hrat⟩ := G.rare.at (i := p.2) (v := rs[p.2]) (by simp [hpr])
        have hre : rules[p.2] = (p.1, rr) := (List.getElem?_eq_some_iff.mp hrr).2
        rw [hre] at hrat
        have hgd : rs.getD p.2 .none = rs[p.2] := by simp [List.getD, hpr]
        obtain ⟨xr, fsr, tl, ar, rv, hxr, or, hl_, hr_, har, hrv, _⟩ := hrat
        rw [hgd, hxr]
        have or := or.hk hk4
        skip
        (walk_at "attr1"; walk_at "a61"; walk_at "a7"; walk_at "a60"; walk_at "a55")
        have hrw := hwf _ (List.mem_of_getElem? hrr)
        refine joined_words_spec (k := k + 1) (wd := wfold rules L1 (C1.take j) (initW names.length tc)) rm W (by walk_at "now") (.inl (Heap.IsTuple.hk har hk4)) hrv (by exact X.lst (vs := wv) (by simp)) hwv (by rw [hWl]; exact hrw.2.2) (by rw [hWl]; omega) hrw.2.1
          (fun q _ y hy => hsj q y hy) (fun v h' tk g5 O hv => ?_)
        have X := Fx.out (by assumption) O
        (walk_at "a7"; walk_at "a7")
        have hwl := hwv.1
        refine setItem0 (vs := wv) (by exact X.swap) (by omega) (by omega) (by omega) (fun h6 X => ?_)
        rw [Int.toNat_natCast] at X
        (walk_at "a2"; walk_at "a1"; walk_at "a2"; walk_at "a1"; walk_at "a4")
        refine TurnEnd.mk X.swap O.old ⟨_, rfl, by walk_at "hv", by walk_at "hv", by walk_at "hv", ?_⟩
        rw [wfold_take hp]
        unfold wstep
        rw [if_pos (by simpa using hle), hrr]
        exact WordsV_set (hwv.hk O.old) hv
      · (walk_at "a1"; walk_at "a2"; walk_at "a1"; walk_at "a4")
        refine TurnEnd.mk (by assumption) (Hk.refl _) ⟨wv, rfl, by walk_at "hv", by walk_at "hv", by walk_at "hv", ?_⟩
        rw [wfold_take hp]
        unfold wstep
        rw [if_neg (by simpa using hle)]
        exact hwv
    · rintro g4 m4 led4 h4 tk4 hk4 ⟨wv, rfl, hm1, hm2, hm3, hwv⟩ X
      (walk_at "a2"; walk_at "a0"; walk_at "a36"; walk_at "a7"; walk_at "a3")
      rw [show (kvC rs C1).length = C1.length from by simp [kvC], List.take_length] at hwv
      obtain ⟨g5, hk5, ⟨ol, hol, hpl⟩, X⟩ := X.freeze (by simp)
      exact hQ _ _ _ g5 lw wv X.toOut rfl (listOf ⟨ol, hol, hpl⟩) hch (hwv.hk hk5)
end
section
variable {w : World} {A : Around} {E : Value → Shared → Prop} {s : Shared} {mg mb : Str → Option Value}
variable {g : Heap} {x : Addr} {names : List Str} {tc : Nat} {rules : List (Nat × List Nat)} {fs : Str → Option Value} {an rn : Addr} {ns rs : List Value} {Q : Value → Shared → Prop}
theorem least_sentence_spec {k : Nat} {a : Addr} {vs : List Value} {ks : List Nat} (rm : Rm A (k + 4)) (W : Wd w mg mb g) (hg : Hk g s.heap) (G : GramAt g x names tc rules fs an rn ns rs)
    (hwf : ∀ p ∈ rules, p.1 < names.length ∧ p.2.length ≤ 1000 ∧ ∀ j ∈ p.2, j < names.length) (N : Nat) (hN : changes rules (passes rules (initL names.length tc, []) N) = false)
    (hsm : ∀ i, changes rules (passes rules (initL names.length tc, []) i) = false → ∀ j, Wsm (wfold rules (passes rules (initL names.length tc, []) i).1 ((passes rules (initL names.length tc, []) i).2.take j) (initW names.length tc)))
    (ha : IsSeq g a vs) (hvs : IntsAre vs (nats ks)) (hks : ks.length ≤ 1000) (hkl : ∀ k ∈ ks, k < names.length)
    (hQ : ∀ v h' tk g' i, Out [] g s.heap g' h' → changes rules (passes rules (initL names.length tc, []) i) = false →
      WordV g' v (jw (wfold rules (passes rules (initL names.length tc, []) i).1 (passes rules (initL names.length tc, []) i).2 (initW names.length tc)) ks []) → Q v { s with heap := h', toks := tk }) :
    wpAny (Md w) A (call (.ref 214) [.ref x, .ref a] []) Q E s := by
  refine callP [("grammar", .ref x), ("symbols", .ref a)] W hg rm (by rfl) (by rfl) (BindsTo.of_eq (by rfl)) (by rfl) (by rfl) (by rfl) (by rfl) (by rfl) (fun env L h₁ tk A' is0 he rm X => ?_)
  walk_at "lit"
  (walk_at "a0"; walk_at "a36"; walk_at "a50"; walk_at "a8"; walk_at "a51"; walk_at "a61"; walk_at "a7"; walk_at "a61"; walk_at "a50"; walk_at "a8"; walk_at "a51"; walk_at "a61"; walk_at "a7"; walk_at "a60"; walk_at "a55")
  refine least_words_spec (k := k) rm W (by walk_at "now") G hwf N hN hsm (fun v h' tk g1 b wv i O hv hb hch hwv => ?_)
  subst hv
  have hk1 : Hk g g1 := O.old
  have X := Fx.out (by assumption) O
  have W := W.mono hk1; have G := G.hk hk1
  walk_at "a60"
  have hs1 := hsm i hch (passes rules (initL names.length tc, []) i).2.length
  rw [List.take_length] at hs1
  have hwl := wfold_len (rules := rules) (L := (passes rules (initL names.length tc, []) i).1) (C := (passes rules (initL names.length tc, []) i).2) (W := initW names.length tc)
  rw [initW_len] at hwl
  have hfew := G.few
  refine And.intro (hk1.trans (by walk_at "now")) ?_
  refine joined_words_spec (k := k + 2) (wd := wfold rules (passes rules (initL names.length tc, []) i).1 (passes rules (initL names.length tc, []) i).2 (initW names.length tc)) rm W (by walk_at "now") (ha.hk hk1) hvs (Heap.IsList.hk hb (by walk_at "now")) hwv (by rw [hwl]; exact hkl) (by rw [hwl]; omega) hks
    (fun q _ y hy => hs1 q y hy) (fun v h' tk g5 O hv => ?_)
  have X := Fx.out (by assumption) O
  exact hQ _ _ _ _ i X.toOut hch hv
end
section
variable {w : World} {A : Around} {E : Value → Shared → Prop} {s : Shared} {mg mb : Str → Option Value}
variable {fr : List Addr} {g0 h0 g : Heap} {L : Addr} {m : Str → Option Value} {led : List (Addr × (Obj → Prop))} {Q : Value → Shared → Prop}
theorem rule_new {k : Nat} {num : Int} {l : Nat} {tn tl : Tok} {ra : Addr} {lev : Value} {rv : List Value} {r : List Nat} (W : Wd w mg mb g) (rm : Rm A (k + 2)) (f : FrOk fr h0) (X : Fx fr g0 h0 g L s.heap m led)
    (hr : g.IsTuple ra rv.toArray) (hrv : IntsAre rv (nats r))
    (hQ : ∀ x g' h' tk, Hk g g' → Fx fr g0 h0 g' L h' m led → RuleAt g' (.ref x) l r → Q (.ref x) { s with heap := h', toks := tk }) :
    wpAny (Md w) A (call (.ref 80) [.int num tn, .int (l : Nat) tl, .ref ra, lev] []) Q E s := by
  have Xold := X
  refine newIns (fI := 77) W rm X (by rfl) (by rfl) (by rfl) (fun x dx h' A' fx fd rm X => ?_)
  have hx : h'.get? x = some (PySem.W.instObj 80 dx) := by obtain ⟨o, ho, rfl⟩ := X.at (a := x) (List.mem_cons_of_mem _ List.mem_cons_self); exact ho
  have hne : x ≠ dx := by
    have := (List.nodup_cons.mp X.nd).1
    intro q; exact this (by simp [q])
  refine codeP1 (a := dx) (P := isIns (fun _ => none) 0) [("self", .ref x), ("number", .int num tn), ("left", .int (l : Nat) tl), ("right", .ref ra), ("level_of", lev), ("action", .none), ("line", .int 0 274), ("before", .int 0 275)]
    W X.now rm (X.at List.mem_cons_self) (X.led_ _ List.mem_cons_self).2.2.1 (by rfl) (by rfl) (PySem.W.binds_K (W.K.keeps X.now) rfl (by rfl) rfl (by rfl) (by rfl)) (by rfl) (by rfl) (by rfl) (by rfl) (by rfl) (fun env L' h₁ tk A'' is0 he rm Y => ?_)
  walk_at "lit"
  have hxk : ∀ {h : Heap} {m : Str → Option Value} {led : List (Addr × (Obj → Prop))}, Fx [dx] g h' g L' h m led → h.get? x = some (PySem.W.instObj 80 dx) := fun Y => Y.keep x _ (by simpa using hne) hx
  (walk_at "a0"; walk_at "a47"; walk_at "a7"; walk_at "a7")
  refine setattr0 (c := 0) W (by exact hxk Y) (by decide) (by rfl) (by rfl) (by rfl) (by rfl) (by exact Y) (fun h2 tk2 Y => ?_)
  (walk_at "a2"; walk_at "a0"; walk_at "a47"; walk_at "a7"; walk_at "a7")
  refine setattr0 (c := 1) W (by exact hxk Y) (by decide) (by rfl) (by rfl) (by rfl) (by rfl) (by exact Y) (fun h2 tk2 Y => ?_)
  (walk_at "a2"; walk_at "a0"; walk_at "a47"; walk_at "a7"; walk_at "a7")
  refine setattr0 (c := 2) W (by exact hxk Y) (by decide) (by rfl) (by rfl) (by rfl) (by rfl) (by exact Y) (fun h2 tk2 Y => ?_)
  (walk_at "a2"; walk_at "a0"; walk_at "a47"; walk_at "a7"; walk_at "a7")
  refine setattr0 (c := 3) W (by exact hxk Y) (by decide) (by rfl) (by rfl) (by rfl) (by rfl) (by exact Y) (fun h2 tk2 Y => ?_)
  (walk_at "a2"; walk_at "a0"; walk_at "a47"; walk_at "a7"; walk_at "a7")
  refine setattr0 (c := 4) W (by exact hxk Y) (by decide) (by rfl) (by rfl) (by rfl) (by rfl) (by exact Y) (fun h2 tk2 Y => ?_)
  (walk_at "a2"; walk_at "a0"; walk_at "a47"; walk_at "a7"; walk_at "a7")
  refine setattr0 (c := 5) W (by exact hxk Y) (by decide) (by rfl) (by rfl) (by rfl) (by rfl) (by exact Y) (fun h2 tk2 Y => ?_)
  (walk_at "a2"; walk_at "a0"; walk_at "a47"; walk_at "a7"; walk_at "a7")
  refine setattr0 (c := 6) W (by exact hxk Y) (by decide) (by rfl) (by rfl) (by rfl) (by rfl) (by exact Y) (fun h2 tk2 Y => ?_)
  (walk_at "a2"; walk_at "a1")
  refine ⟨_, rfl, rfl, ?_⟩
  have Z := X.outT Y.toOut (Y.at List.mem_cons_self)
  obtain ⟨g1, hk1, hd, Z⟩ := Z.freeze (f.off Xold fd)
  obtain ⟨g2, hk2, ⟨ox, hox, rfl⟩, Z⟩ := Z.freeze (f.off Xold fx)
  obtain ⟨od, hod, hpd⟩ := hd
  refine hQ x g2 _ _ (hk1.trans hk2) Z ⟨x, _, tl, ra, rv, rfl, ObjAt.of_ins hox ⟨od, hk2 _ _ hod, hpd⟩, by walk_at "hv", by walk_at "hv", Heap.IsTuple.hk hr (hk1.trans hk2), hrv, num, tn, by walk_at "hv"⟩
end
section
variable {w : World} {A : Around} {E : Value → Shared → Prop} {s : Shared} {mg mb : Str → Option Value}
variable {fr : List Addr} {g0 h0 g : Heap} {L : Addr} {m : Str → Option Value} {led : List (Addr × (Obj → Prop))} {Q : Value → Shared → Prop}
theorem len_tup {Q : Value → Shared → Prop} {l : Addr} {vs : List Value} (hl : s.heap.IsTuple l vs.toArray) (hn : vs.length < 2 ^ 60) (h : ∀ t tk, Q (.int (vs.length : Nat) t) { s with toks := tk }) :
    wpAny (Md w) A (call (.builtin "len") [.ref l]) Q E s :=
  PyProof.Rows.len_tuple hl (by simp; omega) (by simpa using h _ _)
theorem attr_self {x C d : Addr} {fs : Str → Option Value} {c : Nat} {name : Str} {expr : Bool} {attr : Option Value} {v : Value} (hx : s.heap.get? x = some (PySem.W.instObj C d)) (hd : (d, isIns fs c) ∈ led) (hv : fs name = some v) (X : Fx fr g0 h0 g L s.heap m led) (W : Wd w mg mb g)
    (hg : plainGet (Kf w) C name = true) (hh : hasDictIn (Kf w) C = true) (ha : findIn (Kf w) (.ref C) name = some attr) (hn : noGet (Kf w) attr = true)
    (hh' : handedIn v = true) (hQ : Q v { s with toks := s.toks + 1 }) : wpAny (Md w) A (getAttr (.ref x) name expr) Q E s :=
  attr_own W X.now (ObjAt.of_ins hx (X.at hd)) hg hh ha hn hv hh' hQ

theorem isPlN.mono {n k : Nat} (h : n ≤ k) {o : Obj} (x : isPlN n o) : isPlN k o := by obtain ⟨vs, h1, h2⟩ := x; exact ⟨vs, h1, Nat.le_trans h2 h⟩
/-- what a Grammar's making turns -/
def gled (dx lw lo D : Addr) (fs : Str → Option Value) (ys : List Value) (as : List Addr) (j j2 j3 : Nat) : List (Addr × (Obj → Prop)) :=
  (dx, isIns fs 9) :: (lw, isPlN (j3 * 1001)) :: (lo, isPlN j2) :: (D, isLst ys) :: as.map fun a => (a, isPlN j)
theorem gled_imp {dx lw lo D : Addr} {fs : Str → Option Value} {ys : List Value} {as : List Addr} {i j i2 j2 i3 j3 : Nat} (hij : i ≤ j) (hij2 : i2 ≤ j2) (hij3 : i3 ≤ j3) : (gled dx lw lo D fs ys as j j2 j3).map (·.1) = (gled dx lw lo D fs ys as i i2 i3).map (·.1) ∧
    ∀ p ∈ gled dx lw lo D fs ys as j j2 j3, ∃ P, (p.1, P) ∈ gled dx lw lo D fs ys as i i2 i3 ∧ ∀ o, P o → p.2 o := by
  refine ⟨by simp [gled], fun p hp => ?_⟩
  unfold gled at hp ⊢
  rcases List.mem_cons.mp hp with rfl | hp
  · exact ⟨_, List.mem_cons_self, fun _ h => h⟩
  rcases List.mem_cons.mp hp with rfl | hp
  · exact ⟨_, List.mem_cons_of_mem _ List.mem_cons_self, fun _ h => isPlN.mono (Nat.mul_le_mul_right _ hij3) h⟩
  rcases List.mem_cons.mp hp with rfl | hp
  · exact ⟨_, List.mem_cons_of_mem _ (List.mem_cons_of_mem _ List.mem_cons_self), fun _ h => isPlN.mono hij2 h⟩
  rcases List.mem_cons.mp hp with rfl | hp
  · exact ⟨_, List.mem_cons_of_mem _ (List.mem_cons_of_mem _ (List.mem_cons_of_mem _ List.mem_cons_self)), fun _ h => h⟩
  obtain ⟨a, ha, rfl⟩ := List.mem_map.mp hp
  exact ⟨isPlN i, List.mem_cons_of_mem _ (List.mem_cons_of_mem _ (List.mem_cons_of_mem _ (List.mem_cons_of_mem _ (List.mem_map.mpr ⟨a, ha, rfl⟩)))), fun _ h => isPlN.mono hij h⟩
theorem dedup_ex : ∀ l : List Addr, ∃ as : List Addr, as.Nodup ∧ ∀ a, a ∈ as ↔ a ∈ l
  | [] => ⟨[], .nil, fun _ => Iff.rfl⟩
  | a :: l => by
    obtain ⟨as, hn, hm⟩ := dedup_ex l
    by_cases h : a ∈ as
    · exact ⟨as, hn, fun b => by rw [hm, List.mem_cons]; exact ⟨.inr, fun q => q.elim (fun e => e ▸ (hm a).mp h) id⟩⟩
    · exact ⟨a :: as, List.nodup_cons.mpr ⟨h, hn⟩, fun b => by rw [List.mem_cons, List.mem_cons, hm]⟩
def adr : Value → Addr
  | .ref a => a
  | _ => 0
theorem grammar_new {k : Nat} {names : List Str} {tc : Nat} {rules : List (Nat × List Nat)} {an rn dn : Addr} {ns rs : List Value} {t ts : Tok} {st : Int} (W : Wd w mg mb g) (rm : Rm A (k + 3)) (f : FrOk fr h0) (X : Fx fr g0 h0 g L s.heap m led)
    (hn : g.PlainList an ns.toArray) (hsts : StrsAre ns names) (hr : g.IsList rn rs.toArray) (hrs : RulesAre g rs rules) (hlt : ∀ p ∈ rules, p.1 < names.length ∧ p.2.length ≤ 1000) (hfew : names.length < 1000) (hrl : rules.length ≤ 1000)
    (hQ : ∀ x fs g' h' tk, Hk g g' → Fx fr g0 h0 g' L h' m led → GramAt g' x names tc rules fs an rn ns rs → Q (.ref x) { s with heap := h', toks := tk }) :
    wpAny (Md w) A (call (.ref 162) [.ref an, .int tc t, .ref rn, .ref dn, .none, .int st ts] []) Q E s := by
  have Xold := X
  refine newIns (fI := 96) W rm X (by rfl) (by rfl) (by rfl) (fun x dx h' A' fx fd rm X => ?_)
  have hx : h'.get? x = some (PySem.W.instObj 162 dx) := by obtain ⟨o, ho, rfl⟩ := X.at (a := x) (List.mem_cons_of_mem _ List.mem_cons_self); exact ho
  have hne : x ≠ dx := by
    have := (List.nodup_cons.mp X.nd).1
    intro q; exact this (by simp [q])
  refine codeP1 (a := dx) (P := isIns (fun _ => none) 0) [("self", .ref x), ("names", .ref an), ("terminal_count", .int tc t), ("rules", .ref rn), ("levels", .ref dn), ("expect", .none), ("start", .int st ts)]
    W X.now rm (X.at List.mem_cons_self) (X.led_ _ List.mem_cons_self).2.2.1 (by rfl) (by rfl) (BindsTo.of_eq (by rfl)) (by rfl) (by rfl) (by rfl) (by rfl) (by rfl) (fun env L' h₁ tk A'' is0 he rm Y => ?_)
  walk_at "lit"
  have hxk : ∀ {g h : Heap} {L : Addr} {m : Str → Option Value} {g0 : Heap} {led : List (Addr × (Obj → Prop))}, Fx [dx] g0 h' g L h m led → h.get? x = some (PySem.W.instObj 162 dx) := fun Y => Y.keep x _ (by simpa using hne) hx
  (walk_at "a0"; walk_at "a47"; walk_at "a7"; walk_at "a7")
  refine setattr0 (c := 0) W (by exact hxk Y) (by decide) (by rfl) (by rfl) (by rfl) (by rfl) (by exact Y) (fun h2 tk2 Y => ?_)
  (walk_at "a2"; walk_at "a0"; walk_at "a47"; walk_at "a7"; walk_at "a7")
  refine setattr0 (c := 1) W (by exact hxk Y) (by decide) (by rfl) (by rfl) (by rfl) (by rfl) (by exact Y) (fun h2 tk2 Y => ?_)
  (walk_at "a2"; walk_at "a0"; walk_at "a47"; walk_at "a7"; walk_at "a7")
  refine setattr0 (c := 2) W (by exact hxk Y) (by decide) (by rfl) (by rfl) (by rfl) (by rfl) (by exact Y) (fun h2 tk2 Y => ?_)
  (walk_at "a2"; walk_at "a0"; walk_at "a47"; walk_at "a7"; walk_at "a7")
  refine setattr0 (c := 3) W (by exact hxk Y) (by decide) (by rfl) (by rfl) (by rfl) (by rfl) (by exact Y) (fun h2 tk2 Y => ?_)
  (walk_at "a2"; walk_at "a0"; walk_at "a47"; walk_at "a7"; walk_at "a7")
  refine setattr0 (c := 4) W (by exact hxk Y) (by decide) (by rfl) (by rfl) (by rfl) (by rfl) (by exact Y) (fun h2 tk2 Y => ?_)
  (walk_at "a2"; walk_at "a0"; walk_at "a47"; walk_at "a7"; walk_at "a7")
  refine setattr0 (c := 5) W (by exact hxk Y) (by decide) (by rfl) (by rfl) (by rfl) (by rfl) (by exact Y) (fun h2 tk2 Y => ?_)
  (walk_at "a2"; walk_at "a0"; walk_at "a47")
  refine ListComp_ (cl' := []) (closureFor_none (by decide)) (by rfl) (by rfl) ?_ (by intro _; with_unfolding_all rfl)
  (walk_at "a56"; walk_at "a7")
  refine attr_self (by exact hxk Y) (by exact List.mem_cons_self) (by walk_at "hv") Y W (by rfl) (by rfl) (by rfl) (by rfl) (by rfl) ?_
  refine absS is0 ⟨_, rfl⟩ (fun tk3 => ?_)
  have hlen := StrsAre.length hsts
  refine comp_list rm he (by exact Y) hn.isList (fun i g' ys => ys.length = i ∧ i ≤ 1000 ∧ ∀ y ∈ ys, ∃ a, y = .ref a ∧ h2.get? a = none ∧ ∃ o, g'.get? a = some o ∧ isPl [] o) ⟨rfl, by omega, fun y hy => nomatch hy⟩ (by omega) (fun i g ys hJ => by omega) (by rfl) (by rfl) (by rfl) ?_ ?_
  · rintro i v g' ys C D I h tk mc it cenv E' hce hv hk' ⟨hyl, hi, hys⟩ Z
    refine testsOf_nil ?_
    refine ift ?_
    have hil : i < ns.length := (List.getElem?_eq_some_iff.mp hv).1
    (walk_at "a59"; walk_at "a60")
    refine newList_l (by exact Z) (by simp [sizeLine_eq]) (fun a h5 ha Z5 => ?_)
    have fa := (Z.fresh_ne ha).2.2.1
    obtain ⟨g5, hk5, ho5, Z5⟩ := Z5.freeze (by simp)
    refine EltEnd.mk Z5 hk5 ⟨by simp [hyl], by omega, fun y hy => ?_⟩
    rcases List.mem_append.mp hy with hy | hy
    · obtain ⟨a, e, h1, o, h2, h3⟩ := hys y hy; exact ⟨a, e, h1, o, hk5 _ _ h2, h3⟩
    · rw [List.mem_singleton.mp hy]; exact ⟨a, rfl, fa, ho5⟩
  · rintro D g1 g2 ys h6 tk6 hk1 hk2 hDn ⟨hyl, _, hys⟩ hD Z
    have hg2 := Z.now
    have Z := Z.weaken (hk1.trans hk2) (Hk.refl g)
    obtain ⟨as, hasn, hasm⟩ := dedup_ex (ys.map adr)
    have has : ∀ a ∈ as, h2.get? a = none ∧ ∃ o, g2.get? a = some o ∧ isPl [] o := fun a ha => by
      rw [hasm] at ha
      obtain ⟨y, hy, rfl⟩ := List.mem_map.mp ha
      obtain ⟨a, rfl, h1, o, h3, h4⟩ := hys y hy
      exact ⟨h1, o, hk2 _ _ h3, h4⟩
    have hmem : ∀ {j : Nat} {v : Value}, ys[j]? = some v → ∃ a, v = .ref a ∧ a ∈ as := fun hv => by
      have hm := List.mem_of_getElem? hv
      obtain ⟨a, rfl, _⟩ := hys _ hm
      exact ⟨a, rfl, by rw [hasm]; exact List.mem_map.mpr ⟨_, hm, rfl⟩⟩
    have hDas : D ∉ as := fun hm => by
      obtain ⟨_, o, h1, n1, rfl⟩ := has D hm
      obtain ⟨n2, h2⟩ := hD
      rw [h1] at h2
      have : ys = [] := by injection h2 with h2; injection h2 with _ _ h2; injection h2 with h2; simpa using h2.symm
      subst this
      rw [hasm] at hm
      exact nomatch hm
    have Z := Z.more (led' := (D, isLst ys) :: as.map (fun a => (a, isPlN 0))) (fun p hp => by
      rcases List.mem_cons.mp hp with rfl | hp
      · obtain ⟨h1, h3, h4, h5⟩ := Y.fresh_ne hDn
        obtain ⟨nD, hD⟩ := hD
        exact ⟨⟨_, hg2 _ _ hD, rfl, nD, rfl⟩, h1, h3, h4, h5⟩
      · obtain ⟨a, ha, rfl⟩ := List.mem_map.mp hp
        obtain ⟨han, o, h1, h2⟩ := has a ha
        obtain ⟨h3, h4, h5, h6⟩ := Y.fresh_ne han
        exact ⟨⟨o, hg2 _ _ h1, [], h2, Nat.le_refl _⟩, h3, h4, h5, h6⟩) (by
      rw [List.map_cons, List.nodup_cons, List.map_map]
      refine ⟨fun q => ?_, by simpa [Function.comp_def] using hasn⟩
      obtain ⟨a, ha, e⟩ := List.mem_map.mp q
      have e : a = D := e
      exact hDas (e ▸ ha))
    walk_at "a7"
    refine setattr0 (c := 6) W (by exact hxk Z) (by decide) (by rfl) (by rfl) (by rfl) (by rfl) (by exact Z) (fun h2 tk2 Z => ?_)
    (walk_at "a2"; walk_at "a0"; walk_at "a47"; walk_at "a59"; walk_at "a60")
    refine newList_l (by exact Z) (by simp [sizeLine_eq]) (fun lo h8 hlo Z => ?_)
    walk_at "a7"
    refine setattr0 (c := 7) W (by exact hxk Z) (by decide) (by rfl) (by rfl) (by rfl) (by rfl) (by exact Z.swap) (fun h2 tk2 Z => ?_)
    (walk_at "a2"; walk_at "a0"; walk_at "a47"; walk_at "a59"; walk_at "a60")
    refine newList_l (by exact Z) (by simp [sizeLine_eq]) (fun lw h8 hlw Z => ?_)
    walk_at "a7"
    refine setattr0 (c := 8) W (by exact hxk Z) (by decide) (by rfl) (by rfl) (by rfl) (by rfl) (by exact Z.swap) (fun h2 tk2 Z => ?_)
    (walk_at "a2"; walk_at "a0"; walk_at "a62"; walk_at "a56"; walk_at "a7")
    refine attr_self (by exact hxk Z) (by exact List.mem_cons_self) (by walk_at "hv") Z W (by rfl) (by rfl) (by rfl) (by rfl) (by rfl) ?_
    refine absS is0 ⟨_, rfl⟩ (fun tk3 => ?_)
    generalize hfs : (mset (mset (mset (mset (mset (mset (mset (mset (mset (fun _ => none) "names" (.ref an)) "terminal_count" (.int tc t)) "rules" (.ref rn)) "levels" (.ref dn)) "expect" .none) "start" (.int st ts)) "by_left" (.ref D)) "offsets" (.ref lo)) "owners" (.ref lw)) = fs9 at *
    have f1 : fs9 "by_left" = some (.ref D) := by rw [← hfs]; walk_at "hv"
    have f2 : fs9 "offsets" = some (.ref lo) := by rw [← hfs]; walk_at "hv"
    have f3 : fs9 "owners" = some (.ref lw) := by rw [← hfs]; walk_at "hv"
    have Z : Fx [dx] g h' g L' h2 _ (gled dx lw lo D fs9 ys as 0 0 0) := Z.imps (by simp [gled]) (fun p hp => by
      unfold gled at hp
      rcases List.mem_cons.mp hp with rfl | hp
      · exact ⟨_, List.mem_cons_self, fun _ h => h⟩
      rcases List.mem_cons.mp hp with rfl | hp
      · exact ⟨_, List.mem_cons_of_mem _ List.mem_cons_self, fun _ h => ⟨[], h, Nat.zero_le _⟩⟩
      rcases List.mem_cons.mp hp with rfl | hp
      · exact ⟨_, List.mem_cons_of_mem _ (List.mem_cons_of_mem _ List.mem_cons_self), fun _ h => ⟨[], h, Nat.zero_le _⟩⟩
      exact ⟨p.2, List.mem_cons_of_mem _ (List.mem_cons_of_mem _ (List.mem_cons_of_mem _ hp)), fun _ h => h⟩)
    refine for_list (fun j g' m led => led = gled dx lw lo D fs9 ys as j j j ∧ j ≤ 1000 ∧ m "self" = some (.ref x)) rm he (by rfl) (by exact Z) hr (fun a ha => by
        rw [List.mem_singleton.mp ha]; exact X.at List.mem_cons_self |>.imp fun _ h => h.1) ⟨rfl, by omega, by walk_at "hv"⟩ ?_ ?_ (by intro f s' q; exact q)
    · rintro j v g3 m3 led3 h3 tk3 it I E3 hv hk3 ⟨rfl, hj1, hm1⟩ Z
      have W := W.mono hk3
      obtain ⟨hj, xr, fsr, tl, ar, rv, rfl, or, hl_, hr_, har, hrv, num, tnum, hnum⟩ := hrs.at hv
      have or := or.hk hk3
      have har := Heap.IsTuple.hk har hk3
      have hrr := hlt _ (List.getElem_mem hj)
      have upP : ∀ (pre : List (Addr × (Obj → Prop))) {h : Heap} {m : Str → Option Value} {i1 i2 i3 j1 j2 j3 : Nat}, i1 ≤ j1 → i2 ≤ j2 → i3 ≤ j3 → Fx [dx] g h' g3 L' h m (pre ++ gled dx lw lo D fs9 ys as i1 i2 i3) → Fx [dx] g h' g3 L' h m (pre ++ gled dx lw lo D fs9 ys as j1 j2 j3) := fun pre h m i1 i2 i3 j1 j2 j3 h1 h2 h3 Z => by
        obtain ⟨ga, gb⟩ := gled_imp (dx := dx) (lw := lw) (lo := lo) (D := D) (fs := fs9) (ys := ys) (as := as) h1 h2 h3
        exact Z.imps (by rw [List.map_append, List.map_append, ga]) (fun p hp => by
          rcases List.mem_append.mp hp with hp | hp
          · exact ⟨p.2, List.mem_append_left _ hp, fun _ h => h⟩
          · obtain ⟨P, h1, h2⟩ := gb p hp; exact ⟨P, List.mem_append_right _ h1, h2⟩)
      have up : ∀ {h : Heap} {m : Str → Option Value} {i1 i2 i3 j1 j2 j3 : Nat}, i1 ≤ j1 → i2 ≤ j2 → i3 ≤ j3 → Fx [dx] g h' g3 L' h m ((I, it) :: gled dx lw lo D fs9 ys as i1 i2 i3) → Fx [dx] g h' g3 L' h m ((I, it) :: gled dx lw lo D fs9 ys as j1 j2 j3) := fun h1 h2 h3 Z => upP [(I, it)] h1 h2 h3 Z
      have hDl : h3.IsList D ys.toArray := Z.lst (by simp [gled])
      have hyj : rules[j].1 < ys.length := by have := hrr.1; omega
      obtain ⟨a, hya, haa⟩ := hmem (j := rules[j].1) (v := ys[rules[j].1]) (by simp [hyj])
      have hla : ∃ o, h3.get? a = some o ∧ isPlN j o := Z.at (by simp [gled, haa])
      have ml1 : ∀ {j j2 j3}, (a, isPlN j) ∈ ((I, it) :: gled dx lw lo D fs9 ys as j j2 j3) := by simp [gled, haa]
      have ml2 : ∀ {j j2 j3}, (lo, isPlN j2) ∈ ((I, it) :: gled dx lw lo D fs9 ys as j j2 j3) := by simp [gled]
      have ml3 : ∀ {j j2 j3}, (lw, isPlN (j3 * 1001)) ∈ ((I, it) :: gled dx lw lo D fs9 ys as j j2 j3) := by simp [gled]
      have ml0 : ∀ {j j2 j3}, (dx, isIns fs9 9) ∈ ((I, it) :: gled dx lw lo D fs9 ys as j j2 j3) := by simp [gled]
      have pl : ∀ {h : Heap} {a : Addr} {n : Nat}, (∃ o, h.get? a = some o ∧ isPlN n o) → ∃ vs : List Value, h.PlainList a vs.toArray ∧ vs.length ≤ n := fun ⟨o, ho, vs, ⟨k, e⟩, hl⟩ => ⟨vs, ⟨k, e ▸ ho⟩, hl⟩
      have Z := up (Nat.le_succ j) (Nat.le_refl j) (Nat.le_refl j) Z
      obtain ⟨va, hva, hval⟩ := pl hla
      (walk_at "a0"; walk_at "a57"; walk_at "a49"; walk_at "a22"; walk_at "a56"; walk_at "a7")
      refine attr_self (by exact hxk Z) ml0 f1 Z W (by rfl) (by rfl) (by rfl) (by rfl) (by rfl) ?_
      (walk_at "a56"; walk_at "a7")
      walk_at "attr1"
      refine item_l (v := .ref a) (by omega) (by omega) (by rw [Int.toNat_natCast]; exact (List.getElem?_eq_getElem hyj).trans (congrArg some hya)) (by exact hDl) (by with_unfolding_all rfl) ?_
      refine meth_list (by exact hva) PySem.F.slot_list_append PySem.F.type_list_append ?_
      (walk_at "a54"; walk_at "a61"; walk_at "a56"; walk_at "a7")
      (walk_at "attr1"; walk_at "a60")
      refine append_in (n := j) (by exact Z) ml1 (by exact hla) (by rw [sizeLine_eq]; omega) (fun h4 Z => ?_)
      have hlo := Z.at ml2
      have Z := up (Nat.le_refl _) (Nat.le_succ j) (Nat.le_refl j) Z
      obtain ⟨vo, hvo, hvol⟩ := pl hlo
      (walk_at "a2"; walk_at "a0"; walk_at "a57"; walk_at "a49"; walk_at "a56"; walk_at "a7")
      refine attr_self (by exact hxk Z) ml0 f2 Z W (by rfl) (by rfl) (by rfl) (by rfl) (by rfl) ?_
      refine meth_list (by exact hvo) PySem.F.slot_list_append PySem.F.type_list_append ?_
      (walk_at "a54"; walk_at "a61"; walk_at "a50"; walk_at "a9"; walk_at "a54"; walk_at "a61"; walk_at "a56"; walk_at "a7")
      refine attr_self (by exact hxk Z) ml0 f3 Z W (by rfl) (by rfl) (by rfl) (by rfl) (by rfl) ?_
      walk_at "a60"
      obtain ⟨vw, hvw, hvwl⟩ := pl (Z.at ml3)
      refine len_list (by exact hvw.isList) (by omega) (fun t5 tk5 => ?_)
      walk_at "a60"
      refine append_in (n := j) (by exact Z) ml2 (by exact hlo) (by rw [sizeLine_eq]; omega) (fun h5 Z => ?_)
      (walk_at "a2"; walk_at "a0"; walk_at "a57"; walk_at "a49"; walk_at "a56"; walk_at "a7")
      obtain ⟨vw, hvw, hvwl⟩ := pl (Z.at ml3)
      refine attr_self (by exact hxk Z) ml0 f3 Z W (by rfl) (by rfl) (by rfl) (by rfl) (by rfl) ?_
      refine meth_list (by exact hvw) PySem.F.slot_list_extend PySem.F.type_list_extend ?_
      (walk_at "a54"; walk_at "a61"; walk_at "a23"; walk_at "a59"; walk_at "a61"; walk_at "a56"; walk_at "a7")
      (walk_at "attr1"; walk_at "a60")
      refine newList_l (by exact Z) (by simp [sizeLine_eq]) (fun b h6 hb Z => ?_)
      (walk_at "a23"; walk_at "a50"; walk_at "a9"; walk_at "a54"; walk_at "a61"; walk_at "a56"; walk_at "a7")
      (walk_at "attr1"; walk_at "a60")
      have hrl' := hrv.length
      refine len_tup (by exact Heap.IsTuple.hk har Z.now) (by simp at hrl'; omega) (fun t6 tk6 => ?_)
      (walk_at "a18"; walk_at "a38")
      refine mul_l (by exact Z) (by exact Z.pl List.mem_cons_self) (by omega) (by simp at hrl'; omega) (by simp) (fun b2 h7 hb2 Z => ?_)
      have hlw := Z.at (a := lw) (P := isPlN (j * 1001)) (by simp [gled])
      have hb2' := Z.at List.mem_cons_self
      have Z := upP [_, _, (I, it)] (Nat.le_refl _) (Nat.le_refl _) (Nat.le_succ j) Z
      walk_at "a60"
      refine extend_in (n := j * 1001) (N := (j + 1) * 1001) (by exact Z) (by simp [gled]) ?_ (by exact hlw) (by exact hb2') ?_ (fun h8 Z => ?_)
      · simp at hrl' ⊢; omega
      · simp at hrl' ⊢; omega
      (walk_at "a2"; walk_at "a1"; walk_at "a4")
      have hjl : j + 1 ≤ 1000 := by omega
      exact TurnEnd.mk Z.drop.drop (Hk.refl _) ⟨rfl, hjl, by walk_at "hv"⟩
    · rintro g3 m3 led3 h3 tk3 hk3 ⟨rfl, hj1, hm1⟩ Z
      have W := W.mono hk3
      have ml0 : (dx, isIns fs9 9) ∈ (gled dx lw lo D fs9 ys as rs.length rs.length rs.length) := by simp [gled]
      (walk_at "a2"; walk_at "a0"; walk_at "a47"; walk_at "a50"; walk_at "a9"; walk_at "a54"; walk_at "a61"; walk_at "a56"; walk_at "a7")
      refine attr_self (by exact hxk Z) ml0 f3 Z W (by rfl) (by rfl) (by rfl) (by rfl) (by rfl) ?_
      obtain ⟨o, ho, vw, ⟨kw, rfl⟩, hvwl⟩ := Z.at (a := lw) (P := isPlN (rs.length * 1001)) (by simp [gled])
      walk_at "a60"
      have hIl : h3.IsList lw vw.toArray := listOf ⟨_, ho, isPl.lst ⟨kw, rfl⟩⟩
      refine len_list (vs := vw) (by exact hIl) (by omega) (fun t5 tk5 => ?_)
      walk_at "a7"
      refine setattr0 (c := 9) W (by exact hxk Z) (by decide) (by rfl) (by rfl) (by rfl) (by rfl) (by exact Z) (fun h2 tk2 Z => ?_)
      (walk_at "a2"; walk_at "a1")
      refine ⟨_, rfl, rfl, ?_⟩
      have Z1 := X.outT Z.toOut (Z.at List.mem_cons_self)
      obtain ⟨g4, hk4, ⟨od, hod, hpd⟩, Z1⟩ := Z1.freeze (f.off Xold fd)
      obtain ⟨g5, hk5, ⟨ox, hox, rfl⟩, Z1⟩ := Z1.freeze (f.off Xold fx)
      have hall := (hk3.trans hk4).trans hk5
      refine hQ x _ g5 _ _ hall Z1 ⟨ObjAt.of_ins hox ⟨od, hk5 _ _ hod, hpd⟩, ?_, PlainHk hn hall, hsts, ⟨t, ?_⟩, ?_, Heap.IsList.hk hr hall, hrs.hk hall, ?_, ?_, ?_, hfew⟩ <;> (rw [← hfs]; walk_at "hv")
end
section
variable {w : World} {A : Around} {E : Value → Shared → Prop} {s : Shared} {mg mb : Str → Option Value}
variable {fr : List Addr} {g0 h0 g : Heap} {L : Addr} {m : Str → Option Value} {led : List (Addr × (Obj → Prop))} {Q : Value → Shared → Prop}
theorem plain_grammar_spec {k : Nat} {pl : Addr} {pv : List Value} {pp : List (Str × List Str)} (W : Wd w mg mb g) (hg : Hk g s.heap) (rm : Rm A (k + 6)) (ok : PPok pp)
    (hl : g.IsList pl pv.toArray) (hp : PairsAre g pv pp)
    (hQ : ∀ x fs an rn ns rs g' h' tk, Out [] g s.heap g' h' → GramAt g' x (namesOf pp) (termsOf pp).length (rulesOf pp) fs an rn ns rs → Q (.ref x) { s with heap := h', toks := tk }) :
    wpAny (Md w) A (call (.ref 179) [.ref pl] []) Q E s := by
  refine callPC [("pairs", .ref pl), ("start", .none)] [("pairs", .ref pl), ("start", .none)] [] (fun n => [("names", n + 1)])
    W hg rm (by rfl) (by rfl) (PySem.W.binds_K (W.K.keeps hg) rfl (by rfl) rfl (by rfl) (by rfl)) (by intro n; rfl) (by intro n; rfl) (by intro n; simp) (by rfl) (by rfl) (by rfl) (by rfl) (by rfl) (fun env L' h₁ tk A' is0 he rm Y => ?_)
  walk_at "lit"
  (walk_at "a0"; walk_at "a37"; walk_at "a59"; walk_at "a60")
  have Y : Fx [] g s.heap g L' h₁ _ [(L' + 1, isCell none)] := Y
  refine newList_l (by exact Y) (by simp [sizeLine_eq]) (fun lf h2 hlf Y => ?_)
  (walk_at "a17"; walk_at "a2"; walk_at "a0"; walk_at "a62"; walk_at "a7")
  have hpl := hp.1
  have hps := ok.ps
  refine for_pairs (fun i g' m led => ∃ lv, led = [(lf, isPl lv), (L' + 1, isCell none)] ∧ StrsAre lv ((pp.take i).foldl leftStep []) ∧ m "lefts" = some (.ref lf) ∧ m "pairs" = some (.ref pl) ∧ m "start" = some .none) rm he (by rfl) (by rfl) (by assumption) hl hp.tups .nil ⟨[], rfl, .nil, by walk_at "hv", by walk_at "hv", by walk_at "hv"⟩ ?_ ?_ (by intro f s' q; exact q)
  · rintro i T a b g' m' led' h tk it I E' hv hT hk' ⟨lv, rfl, hlv, hm1, hm2, hm3⟩ Y
    obtain ⟨hi, T', t, l, us, e, h1, h2, hus⟩ := (hp.hk hk').at hv
    cases e
    have W := W.mono hk'
    have hT := Heap.IsTuple.hk hT hk'
    obtain ⟨rfl, rfl⟩ := tup2_eq h1 hT
    have hmem : pp[i] ∈ pp := List.getElem_mem hi
    obtain ⟨hl1, hl2, hl3⟩ := ok.l1 _ hmem
    refine absS is0 ⟨_, rfl⟩ (fun tk0 => ?_)
    (walk_at "a0"; walk_at "af"; walk_at "a29"; walk_at "a32"; walk_at "a25"; walk_at "a7"; walk_at "a19"; walk_at "a67"; walk_at "a26")
    refine ife (fun e => absurd e hl1) (fun _ => ?_)
    (walk_at "a32"; walk_at "a25"; walk_at "a22"; walk_at "a7"; walk_at "a64"; walk_at "a65"; walk_at "a66"; walk_at "a18"; walk_at "a65")
    refine slice1 (by assumption) hl2 (by rfl) (by intro r; rfl) (fun h3 t3 tk3 Y => ?_)
    (walk_at "a58"; walk_at "a61"; walk_at "a19"; walk_at "a61"; walk_at "a19"; walk_at "a61"; walk_at "a19"; walk_at "a60")
    refine absS is0 ⟨_, rfl⟩ (fun tk9 => ?_)
    refine newTuple_g .nil (by exact Y) (by simp [sizeLine_eq]) (fun tp g2 h4 hk2 Y htp => ?_)
    have W := W.mono hk2
    skip
    refine in_tup_strs (ys := ["", "$", "'"]) (by exact Heap.IsTuple.hk htp Y.now) (.cons _ _ (.cons _ _ (.cons _ _ .nil))) ?_
    walk_at "a26"
    refine ifb (fun e => absurd e hl3) (fun _ => ?_)
    walk_at "a33"
    refine ifn ?_
    (walk_at "a1"; walk_at "a2"; walk_at "a0")
    have hlvl := StrsAre.length hlv
    have hlt := lefts_take_len (pp := pp) i
    have hfew := ok.few
    have hall : (leftsOf pp).length < 1000 := by unfold namesOf at hfew; simp at hfew; omega
    have htk := foldl_take leftStep [] pp hi
    have hplv := Y.pl (a := lf) (vs := lv) (by simp)
    refine mid' is0 (fun h5 => ∃ lv', StrsAre lv' ((pp.take (i + 1)).foldl leftStep []) ∧ Fx [] g s.heap g2 L' h5 (mset (mset m' "left" (.str pp[i].fst t)) "parts" (.ref l)) [(I, it), (lf, isPl lv'), (L' + 1, isCell none)]) ?_ ?_
    · (walk_at "af"; walk_at "a25"; walk_at "a7"; walk_at "a7")
      refine notin_strs (by exact hplv.isList) hlv ?_
      walk_at "a26"
      refine ifb (fun hin => ?_) (fun hin => ?_)
      · (walk_at "a0"; walk_at "a57"; walk_at "a49"; walk_at "a7")
        refine meth_list (by exact hplv) PySem.F.slot_list_append PySem.F.type_list_append ?_
        (walk_at "a54"; walk_at "a61"; walk_at "a7"; walk_at "a60")
        refine append0 (by exact Y.swap) (by rw [sizeLine_eq]; omega) (fun h5 Y => ?_)
        (walk_at "a2"; walk_at "a1")
        exact NextAnd.mk ⟨_, by rw [htk, leftStep_new hin]; exact strs_append hlv (.cons _ _ .nil), Y.swap⟩
      · walk_at "a1"
        exact NextAnd.mk ⟨lv, by rw [htk, leftStep_in (Classical.not_not.mp hin)]; exact hlv, Y⟩
    rintro h5 tk5 ⟨lv, hlv, Y⟩
    (walk_at "a0"; walk_at "a62"; walk_at "a7")
    have hk2' := hk2
    refine for_list (fun j g3 m led => led = (I, it) :: [(lf, isPl lv), (L' + 1, isCell none)] ∧ m "lefts" = some (.ref lf) ∧ m "pairs" = some (.ref pl) ∧ m "start" = some .none) rm he (by rfl) (by exact Y) (Heap.IsList.hk h2 hk2) FrOk.nil ⟨rfl, by walk_at "hv", by walk_at "hv", by walk_at "hv"⟩ ?_ ?_ (by intro f s' q; exact q)
    · rintro j v g3 m3 led3 h6 tk6 it2 I2 E3 hv3 hk3 ⟨rfl, hm1, hm2, hm3⟩ Y
      obtain ⟨hj, t4, rfl⟩ := StrsAre.at hus hv3
      have W := W.mono hk3
      obtain ⟨hp1, hp2⟩ := (ok.l2 _ hmem).2 _ (List.getElem_mem hj)
      refine absS is0 ⟨_, rfl⟩ (fun tk0 => ?_)
      (walk_at "a0"; walk_at "af"; walk_at "a25"; walk_at "a22"; walk_at "a7"; walk_at "a64"; walk_at "a65"; walk_at "a66"; walk_at "a18"; walk_at "a65")
      refine slice1 (by assumption) hp1 (by rfl) (by intro r; rfl) (fun h7 t7 tk7 Y => ?_)
      (walk_at "a58"; walk_at "a61"; walk_at "a19"; walk_at "a61"; walk_at "a19"; walk_at "a60")
      refine absS is0 ⟨_, rfl⟩ (fun tk9 => ?_)
      refine newTuple_g .nil (by exact Y) (by simp [sizeLine_eq]) (fun tp g4 h8 hk4 Y htp => ?_)
      skip
      refine in_tup_strs (ys := ["", "$"]) (by exact Heap.IsTuple.hk htp Y.now) (.cons _ _ (.cons _ _ .nil)) ?_
      walk_at "a26"
      refine ifb (fun e => absurd e hp2) (fun _ => ?_)
      (walk_at "a1"; walk_at "a2"; walk_at "a1"; walk_at "a4")
      exact TurnEnd.mk Y hk4 ⟨rfl, hm1, hm2, hm3⟩
    · rintro g3 m3 led3 h6 tk6 hk3 ⟨rfl, hm1, hm2, hm3⟩ Y
      (walk_at "a2"; walk_at "a1"; walk_at "a4")
      exact TurnEnd.mk Y (hk2.trans hk3) ⟨_, rfl, hlv, hm1, hm2, hm3⟩
  rintro g3 m3 led3 h3 tk3 hk3 ⟨lv, rfl, hlv, hm1, hm2, hm3⟩ Y
  have W := W.mono hk3
  have hl := Heap.IsList.hk hl hk3
  have hp := hp.hk hk3
  rw [hpl, List.take_length] at hlv
  change StrsAre lv (leftsOf pp) at hlv
  have hlvl := StrsAre.length hlv
  have hfew := ok.few
  have hall : (leftsOf pp).length + (termsOf pp).length < 999 := by unfold namesOf at hfew; simp at hfew; omega
  have hlne : 0 < (leftsOf pp).length := List.length_pos_of_mem (mem_leftsOf.mpr ⟨pp[0]'ok.ne, List.getElem_mem _, rfl⟩)
  (walk_at "a2"; walk_at "a0"; walk_at "a37"; walk_at "a28"; walk_at "a29"; walk_at "a32"; walk_at "a25"; walk_at "a7"; walk_at "a20")
  refine wpAny_isNot_self rfl ?_
  (walk_at "a26"; walk_at "an"; walk_at "a32"; walk_at "a25"; walk_at "a7"; walk_at "a59"; walk_at "a60")
  refine absS is0 ⟨_, rfl⟩ (fun tk9 => ?_)
  refine newList_l (by exact Y) (by simp [sizeLine_eq]) (fun el h5 hel Y => ?_)
  skip
  have hplv := Y.pl (a := lf) (vs := lv) (by simp)
  refine PySem.SeqAt.eq_list_lengthsAt (items2 := #[]) (by exact hplv.isList) (by exact (Y.pl List.mem_cons_self).isList) (by have : lv.length ≠ 0 := (by omega); simpa using this) rm.units ?_
  have Y := Y.drop
  (walk_at "a26"; walk_at "an"; walk_at "a33"; walk_at "an"; walk_at "a22"; walk_at "a7"; walk_at "a18")
  obtain ⟨t0, hl0⟩ := StrsAre.get hlv (i := 0) hlne
  have hplv := Y.pl (a := lf) (vs := lv) (by simp)
  refine item_l (v := .str (leftsOf pp)[0] t0) (by omega) (by omega) (by exact hl0) (by exact hplv.isList) (by with_unfolding_all rfl) ?_
  generalize hbeg : (leftsOf pp)[0] = beg
  have hbin : beg ∈ leftsOf pp := hbeg ▸ List.getElem_mem _
  have hbd : (leftsOf pp).getD 0 "" = beg := by rw [← hbeg]; simp [List.getD, hlne]
  (walk_at "a17"; walk_at "a2"; walk_at "a0"; walk_at "af"; walk_at "a25"; walk_at "a7"; walk_at "a7")
  have hplv := (by assumption : Fx [] g s.heap g3 L' _ _ [(lf, isPl lv), (L' + 1, isCell none)]).pl (a := lf) (vs := lv) (by simp)
  refine notin_strs (by exact hplv.isList) hlv ?_
  walk_at "a26"
  refine ifb (fun e => absurd hbin e) (fun _ => ?_)
  (walk_at "a1"; walk_at "a2"; walk_at "a0"; walk_at "a37"; walk_at "a50"; walk_at "a13"; walk_at "a53"; walk_at "a61"; walk_at "a8"; walk_at "a60")
  refine absS is0 ⟨_, rfl⟩ (fun tk9 => ?_)
  have h62 : ∃ vs, g3.IsTuple 62 (List.toArray vs) ∧ StrsAre vs ownT := ⟨_, ⟨_, W.K 62 _ (by rfl), rfl, _, rfl⟩, .cons _ _ (.cons _ _ (.cons _ _ .nil))⟩
  obtain ⟨ov, hov, hovs⟩ := h62
  have hovl : ov.length = 3 := StrsAre.length hovs
  refine list_of_tup (t := 62) (by assumption) (by walk_at "now2") (by omega) (fun nm h6 hnm Y => ?_)
  skip
  refine stc0 (by exact Y.rot) he (by rfl) (by rfl) (fun h7 Y => ?_)
  (walk_at "a2"; walk_at "a0"; walk_at "a62"; walk_at "a7")
  refine for_pairs (fun i g' m led => ∃ tv, led = [(L' + 1, isCell (some (.ref nm))), (nm, isPl tv), (lf, isPl lv)] ∧ StrsAre tv ((pp.take i).foldl (termStep (leftsOf pp)) ownT) ∧ m "lefts" = some (.ref lf) ∧ m "pairs" = some (.ref pl) ∧ m "begin" = some (.str beg t0)) rm he (by rfl) (by rfl) (by exact Y) hl hp.tups FrOk.nil ⟨ov, rfl, hovs, by walk_at "hv", by walk_at "hv", by walk_at "hv"⟩ ?_ ?_ (by intro f s' q; exact q)
  · rintro i T a b g' m' led' h tk it I E' hv hT hk' ⟨tv, rfl, htv, hm1, hm2, hm3⟩ Y
    obtain ⟨hi, T', t, l, us, e, h1, h2, hus⟩ := (hp.hk hk').at hv
    cases e
    have W := W.mono hk'
    have hT := Heap.IsTuple.hk hT hk'
    obtain ⟨rfl, rfl⟩ := tup2_eq h1 hT
    have hmem : pp[i] ∈ pp := List.getElem_mem hi
    refine absS is0 ⟨_, rfl⟩ (fun tk0 => ?_)
    have htk := foldl_take (termStep (leftsOf pp)) ownT pp hi
    have hn5 := (ok.l2 _ hmem).1
    (walk_at "a0"; walk_at "a62"; walk_at "a7")
    refine for_list (fun j g3 m led => ∃ tv, led = (I, it) :: [(L' + 1, isCell (some (.ref nm))), (nm, isPl tv), (lf, isPl lv)] ∧ StrsAre tv ((pp[i].2.take j).foldl (termStep1 (leftsOf pp)) ((pp.take i).foldl (termStep (leftsOf pp)) ownT)) ∧ m "lefts" = some (.ref lf) ∧ m "pairs" = some (.ref pl) ∧ m "begin" = some (.str beg t0)) rm he (by rfl) (by exact Y) h2 FrOk.nil ⟨tv, rfl, htv, by walk_at "hv", by walk_at "hv", by walk_at "hv"⟩ ?_ ?_ (by intro f s' q; exact q)
    · rintro j v g3 m3 led3 h6 tk6 it2 I2 E3 hv3 hk3 ⟨tv, rfl, htv, hm1, hm2, hm3⟩ Y
      obtain ⟨hj, t4, rfl⟩ := StrsAre.at hus hv3
      have W := W.mono hk3
      have htk1 := foldl_take (termStep1 (leftsOf pp)) ((pp.take i).foldl (termStep (leftsOf pp)) ownT) pp[i].2 hj
      have htl := terms_take_len i j hi
      have htvl := StrsAre.length htv
      refine absS is0 ⟨_, rfl⟩ (fun tk0 => ?_)
      have hplv := Y.pl (a := lf) (vs := lv) (by simp)
      have hptv := Y.pl (a := nm) (vs := tv) (by simp)
      (walk_at "a0"; walk_at "af"; walk_at "a29"; walk_at "a30"; walk_at "a25"; walk_at "a7"; walk_at "a7")
      refine notin_strs (by exact hplv.isList) hlv ?_
      walk_at "a26"
      refine ifb (fun hnl => ?_) (fun hnl => ?_)
      · (walk_at "a30"; walk_at "a25"; walk_at "a7")
        refine ldcL (v := .ref nm) (by exact Y) he (by rfl) (by rfl) (by simp) ?_
        skip
        refine notin_strs (by exact hptv.isList) htv ?_
        walk_at "a26"
        refine ifb (fun hnt => ?_) (fun hnt => ?_)
        · (walk_at "a31"; walk_at "at"; walk_at "a0"; walk_at "a57"; walk_at "a49")
          refine ldcL (v := .ref nm) (by exact Y) he (by rfl) (by rfl) (by simp) ?_
          refine meth_list (by exact hptv) PySem.F.slot_list_append PySem.F.type_list_append ?_
          (walk_at "a54"; walk_at "a61"; walk_at "a7"; walk_at "a60")
          refine append0 (by exact Y.pick [_, _, _]) (by rw [sizeLine_eq]; omega) (fun h5 Y => ?_)
          have Y := Y.unpick [_, _, _]
          (walk_at "a2"; walk_at "a1"; walk_at "a2"; walk_at "a1"; walk_at "a4")
          exact TurnEnd.mk Y (Hk.refl _) ⟨_, rfl, by rw [htk1, termStep1_new hnl hnt]; exact strs_append htv (.cons _ _ .nil), hm1, hm2, hm3⟩
        · (walk_at "an"; walk_at "a1"; walk_at "a2"; walk_at "a1"; walk_at "a4")
          exact TurnEnd.mk Y (Hk.refl _) ⟨_, rfl, by rw [htk1, termStep1_old (fun q => hnt q.2)]; exact htv, hm1, hm2, hm3⟩
      · (walk_at "an"; walk_at "a1"; walk_at "a2"; walk_at "a1"; walk_at "a4")
        exact TurnEnd.mk Y (Hk.refl _) ⟨_, rfl, by rw [htk1, termStep1_old (fun q => hnl q.1)]; exact htv, hm1, hm2, hm3⟩
    · rintro g3 m3 led3 h6 tk6 hk3 ⟨tv, rfl, htv, hm1, hm2, hm3⟩ Y
      (walk_at "a2"; walk_at "a1"; walk_at "a4")
      have hul := StrsAre.length hus
      rw [hul, List.take_length] at htv
      exact TurnEnd.mk Y hk3 ⟨_, rfl, by rw [htk]; exact htv, hm1, hm2, hm3⟩
  rintro g4 m4 led4 h4 tk4 hk4 ⟨tv, rfl, htv, hm1, hm2, hm3⟩ Y
  have W := W.mono hk4
  have hl := Heap.IsList.hk hl hk4
  have hp := hp.hk hk4
  rw [hpl, List.take_length] at htv
  change StrsAre tv (termsOf pp) at htv
  have htvl := StrsAre.length htv
  refine absS is0 ⟨_, rfl⟩ (fun tk0 => ?_)
  (walk_at "a0"; walk_at "a37"; walk_at "a50"; walk_at "a9"; walk_at "a54"; walk_at "a61")
  refine ldcL (v := .ref nm) (by exact Y) he (by rfl) (by rfl) (by simp) ?_
  walk_at "a60"
  have hptv := Y.pl (a := nm) (vs := tv) (by simp)
  refine len_list (by exact hptv.isList) (by omega) (fun t5 tk5 => ?_)
  rw [htvl]
  (walk_at "a17"; walk_at "a2"; walk_at "a0"; walk_at "a37"; walk_at "a23"; walk_at "a23")
  have Y := (by assumption : Fx [] g s.heap g4 L' _ _ [(L' + 1, isCell (some (.ref nm))), (nm, isPl tv), (lf, isPl lv)])
  refine ldcL (v := .ref nm) (by exact Y) he (by rfl) (by rfl) (by simp) ?_
  (walk_at "a59"; walk_at "a61"; walk_at "a19"; walk_at "a60")
  refine newList_l (by exact Y) (by simp [sizeLine_eq]) (fun a1 h5 ha1 Y => ?_)
  refine add_lst (by exact Y) (by exact (Y.pl (a := nm) (vs := tv) (by simp)).isList) (by exact (Y.pl List.mem_cons_self).isList) (by simp; omega) (fun a2 h6 ha2 Y => ?_)
  walk_at "a7"
  refine add_lst (by exact Y) (by exact (Y.pl List.mem_cons_self).isList) (by exact (Y.pl (a := lf) (vs := lv) (by simp)).isList) (by simp; omega) (fun nl h7 hnl Y => ?_)
  obtain ⟨g5, hk5, ⟨onl, honl, knl, rfl⟩, Y⟩ := Y.freeze (by simp)
  have W := W.mono hk5
  have hl := Heap.IsList.hk hl hk5
  have hp := hp.hk hk5
  refine stc0 (by exact Y.drop.drop) he (by rfl) (by rfl) (fun h8 Y => ?_)
  have Y : Fx [] g s.heap g5 L' h8 _ [(L' + 1, isCell (some (.ref nl)))] := Y.sub (by simp) (by simp)
  obtain ⟨nsv, hnsv, hnlp⟩ : ∃ nsv, StrsAre nsv (namesOf pp) ∧ g5.PlainList nl nsv.toArray := ⟨_, strs_append (strs_append htv (.cons _ _ .nil)) hlv, knl, honl⟩
  have hbn : beg ∈ namesOf pp := List.mem_append_right _ hbin
  (walk_at "a2"; walk_at "a0"; walk_at "a37"; walk_at "a59"; walk_at "a61"; walk_at "a50"; walk_at "a8"; walk_at "a51"; walk_at "a61"; walk_at "a18"; walk_at "a61"; walk_at "a7"; walk_at "a61"; walk_at "a58"; walk_at "a61"; walk_at "a49")
  refine ldcL (v := .ref nl) (by assumption) he (by rfl) (by rfl) (by simp) ?_
  refine meth_list (items := nsv.toArray) (by exact PlainHk hnlp (by walk_at "now")) PySem.F.slot_list_index PySem.F.type_list_index ?_
  (walk_at "a54"; walk_at "a61"; walk_at "a7"; walk_at "a60")
  refine index_strs (by exact PlainHk hnlp (by walk_at "now")) hnsv hbn (by omega) (fun u => ?_)
  (walk_at "a61"; walk_at "a8"; walk_at "a60")
  refine newTuple_g FrOk.nil (by assumption) (by simp [sizeLine_eq]) (fun ra g6 h9 hk6 Y hra => ?_)
  have W := W.mono hk6
  (walk_at "a61"; walk_at "a8"; walk_at "a60")
  refine And.intro (hk6.trans (by walk_at "now")) ?_
  have hl := Heap.IsList.hk hl hk6
  have hp := hp.hk hk6
  have hnlp := PlainHk hnlp hk6
  refine rule_new (r := [(namesOf pp).idxOf beg, 0]) (k := k) W (rm.less (by omega)) FrOk.nil (by exact Y) hra (.cons _ _ (.cons _ _ .nil)) (fun x g7 h10 tk10 hk7 Y hx => ?_)
  have W := W.mono hk7
  have hl := Heap.IsList.hk hl hk7
  have hp := hp.hk hk7
  have hnlp := PlainHk hnlp hk7
  walk_at "a60"
  refine newList_l (by exact Y) (by simp [sizeLine_eq]) (fun rl h11 hrl Y => ?_)
  (walk_at "a17"; walk_at "a2"; walk_at "a0"; walk_at "a62"; walk_at "a7")
  have hrlen : (rulesOf pp).length = pp.length + 1 := by simp [rulesOf]
  refine for_pairs (fun i g' m led => ∃ rv, led = [(rl, isPl rv), (L' + 1, isCell (some (.ref nl)))] ∧ RulesAre g' rv ((rulesOf pp).take (i + 1)) ∧ m "pairs" = some (.ref pl) ∧ m "rules" = some (.ref rl) ∧ m "count" = some (.int (termsOf pp).length t5) ∧ m "begin" = some (.str beg t0)) rm he (by rfl) (by rfl) (by assumption) hl hp.tups FrOk.nil
    ⟨_, rfl, ⟨by simp [rulesOf], fun i h h' => by
      have : i = 0 := by simp at h; omega
      subst this
      simp only [rulesOf, hbd]
      exact hx⟩, by walk_at "hv", by walk_at "hv", by walk_at "hv", by walk_at "hv"⟩ ?_ ?_ (by intro f s' q; exact q)
  · rintro i T a b g' m' led' h tk it I E' hv hT hk' ⟨rv, rfl, hrv, hm1, hm2, hm3, hm4⟩ Y
    obtain ⟨hi, T', t, l, us, e, h1, h2, hus⟩ := (hp.hk hk').at hv
    cases e
    have W := W.mono hk'
    have hT := Heap.IsTuple.hk hT hk'
    obtain ⟨rfl, rfl⟩ := tup2_eq h1 hT
    have hnlp := PlainHk hnlp hk'
    have hmem : pp[i] ∈ pp := List.getElem_mem hi
    have hrvl := hrv.1
    rw [List.length_take, hrlen] at hrvl
    refine absS is0 ⟨_, rfl⟩ (fun tk0 => ?_)
    have hn5 := (ok.l2 _ hmem).1
    have hul := StrsAre.length hus
    (walk_at "a0"; walk_at "a37"; walk_at "a50"; walk_at "a14"; walk_at "a53"; walk_at "a61")
    refine ListComp_ (cl' := [("names", L' + 1)]) (closureFor_cells he.cells (by rfl) (by rfl)) (by rfl) (by rfl) ?_ (by intro _; with_unfolding_all rfl)
    walk_at "a7"
    refine comp_list rm he (by exact Y) h2 (fun j g' ys => ys.length = j ∧ j ≤ 500 ∧ IntsAre ys (nats ((pp[i].2.take j).map (namesOf pp).idxOf))) ⟨rfl, by omega, .nil⟩ (by omega) (fun i g ys hJ => by omega) (by rfl) (by rfl) (by rfl) ?_ ?_
    · rintro j v g3 ys C D I3 h3 tk3 mc it3 cenv E3 hce hv3 hk3 ⟨hyl, hj5, hys⟩ Z
      obtain ⟨hj, t4, rfl⟩ := StrsAre.at hus hv3
      refine testsOf_nil ?_
      refine ift ?_
      walk_at "a49"
      refine ldcH (v := .ref nl) (c := L' + 1) (by exact Z) hce (by rfl) (by rfl) (Y.at (P := isCell (some (.ref nl))) (by simp)) (by simp) ?_
      refine meth_list (items := nsv.toArray) (by exact PlainHk hnlp (hk3.trans Z.now)) PySem.F.slot_list_index PySem.F.type_list_index ?_
      (walk_at "a54"; walk_at "a61"; walk_at "a7"; walk_at "a60")
      refine index_strs (by exact PlainHk hnlp (hk3.trans Z.now)) hnsv (part_in hmem (List.getElem_mem hj)) (by omega) (fun u => ?_)
      refine EltEnd.mk Z (Hk.refl _) ⟨by simp [hyl], by omega, ?_⟩
      rw [List.take_succ_eq_append_getElem hj, List.map_append, nats_append]
      exact hys.append (.cons _ _ .nil)
    · rintro D g1 g2 ys h6 tk6 hk1 hk2 hDn ⟨hyl, _, hys⟩ hD Z
      rw [hul, List.take_length] at hys
      have W := W.mono (hk1.trans hk2)
      have hnlp := PlainHk hnlp (hk1.trans hk2)
      walk_at "a60"
      refine tup_of_list FrOk.nil (by assumption) (by exact (PlainHk hD Z.now).isList) (by omega) (fun rt g3 h7 hk3 Y hrt => ?_)
      have W := W.mono hk3
      have hnlp := PlainHk hnlp hk3
      (walk_at "a17"; walk_at "a2"; walk_at "a0"; walk_at "a57"; walk_at "a49"; walk_at "a7")
      have hrvp := Fx.pl (a := rl) (vs := rv) (by assumption) (by simp)
      refine meth_list (items := rv.toArray) (by exact hrvp) PySem.F.slot_list_append PySem.F.type_list_append ?_
      (walk_at "a54"; walk_at "a61"; walk_at "a50"; walk_at "a8"; walk_at "a51"; walk_at "a61"; walk_at "a50"; walk_at "a9"; walk_at "a54"; walk_at "a61"; walk_at "a7"; walk_at "a60")
      refine len_list (by exact hrvp.isList) (by omega) (fun t6 tk6 => ?_)
      (walk_at "a61"; walk_at "a49")
      refine ldcL (v := .ref nl) (by assumption) he (by rfl) (by rfl) (by simp) ?_
      refine meth_list (items := nsv.toArray) (by exact PlainHk hnlp (by walk_at "now")) PySem.F.slot_list_index PySem.F.type_list_index ?_
      (walk_at "a54"; walk_at "a61"; walk_at "a7"; walk_at "a60")
      refine index_strs (by exact PlainHk hnlp (by walk_at "now")) hnsv (left_in hmem) (by omega) (fun u => ?_)
      (walk_at "a61"; walk_at "a7"; walk_at "a61"; walk_at "a50"; walk_at "a8"; walk_at "a51"; walk_at "a61"; walk_at "a7"; walk_at "a61"; walk_at "a7"; walk_at "a60"; walk_at "a55")
      refine last_terminal_spec (k := k) (rm.less (by omega)) W (by walk_at "now") hrt hys (fun lv9 h8 tk8 hk8 _ => ?_)
      have Y := Fx.keeps (by assumption) hk8
      (walk_at "a60"; walk_at "a55")
      refine rule_new (r := pp[i].2.map (namesOf pp).idxOf) (k := k) W (rm.less (by omega)) FrOk.nil (by exact Y) hrt hys (fun x g7 h10 tk10 hk7 Y hx => ?_)
      walk_at "a60"
      refine append0 (by exact Y.swap) (by rw [sizeLine_eq]; omega) (fun h5 Y => ?_)
      have Y := Y.swap
      have hall := ((hk1.trans hk2).trans hk3).trans hk7
      (walk_at "a2"; walk_at "a1"; walk_at "a4")
      refine TurnEnd.mk Y hall ⟨_, rfl, ?_, by walk_at "hv", by walk_at "hv", by walk_at "hv", by walk_at "hv"⟩
      rw [List.take_succ_eq_append_getElem (by omega)]
      refine (hrv.hk hall).snoc ?_
      have : (rulesOf pp)[i + 1]'(by omega) = ruleOf (namesOf pp) pp[i] := by simp [rulesOf]
      rw [this]
      exact hx
  rintro g9 m9 led9 h9 tk9 hk9 ⟨rv, rfl, hrv, hm1, hm2, hm3, hm4⟩ Y
  have W := W.mono hk9
  have hnlp := PlainHk hnlp hk9
  rw [hpl, List.take_of_length_le (by omega)] at hrv
  refine absS is0 ⟨_, rfl⟩ (fun tk0 => ?_)
  (walk_at "a0"; walk_at "a36"; walk_at "a50"; walk_at "a8"; walk_at "a51"; walk_at "a61")
  refine ldcL (v := .ref nl) (by assumption) he (by rfl) (by rfl) (by simp) ?_
  (walk_at "a61"; walk_at "a7"; walk_at "a61"; walk_at "a7"; walk_at "a61")
  refine newDict_l (SK w) (by assumption) W (fun d h10 hd hds Y => ?_)
  (walk_at "a61"; walk_at "a20"; walk_at "a61"; walk_at "a49")
  refine ldcL (v := .ref nl) (by assumption) he (by rfl) (by rfl) (by simp) ?_
  refine meth_list (items := nsv.toArray) (by exact PlainHk hnlp (by walk_at "now")) PySem.F.slot_list_index PySem.F.type_list_index ?_
  (walk_at "a54"; walk_at "a61"; walk_at "a7"; walk_at "a60")
  refine index_strs (by exact PlainHk hnlp (by walk_at "now")) hnsv hbn (by omega) (fun u => ?_)
  (walk_at "a60"; walk_at "a55")
  have Y := Fx.drop (by assumption : Fx [] g s.heap g9 L' h10 m9 (_ :: [(rl, isPl rv), (L' + 1, isCell (some (.ref nl)))]))
  obtain ⟨g10, hk10, ⟨orl, horl, hprl⟩, Y⟩ := Y.freeze (by simp)
  have W := W.mono hk10
  refine grammar_new (k := k + 1) (names := namesOf pp) (rules := rulesOf pp) (ns := nsv) (rs := rv) W (rm.less (by omega)) FrOk.nil (by exact Y) (PlainHk hnlp hk10) hnsv (listOf ⟨_, horl, hprl.lst⟩) (hrv.hk hk10) (rules_ok ok) hfew (by omega) (fun x fs g11 h11 tk11 hk11 Y hG => ?_)
  walk_at "a3"
  exact hQ x fs nl rl nsv rv _ _ _ Y.toOut hG
end
section
variable {w : World} {A : Around} {E : Value → Shared → Prop} {s : Shared} {mg mb : Str → Option Value}
variable {fr : List Addr} {g0 h0 g : Heap} {L : Addr} {m : Str → Option Value} {led : List (Addr × (Obj → Prop))} {Q : Value → Shared → Prop}
theorem tape_spec {k : Nat} {l : Addr} {vs : List Value} {xs : List Int} (W : Wd w mg mb g) (hg : Hk g s.heap) (rm : Rm A (k + 1))
    (hl : g.IsList l vs.toArray) (hxs : IntsAre vs xs) (hlen : xs.length ≤ 63)
    (hQ : ∀ x g' h' tk, Out [] g s.heap g' h' → s.heap.get? x = none → g'.get? x = none → (∃ o, h'.get? x = some o ∧ isTape 0 o) → Q (.ref x) { s with heap := h', toks := tk }) :
    wpAny (Md w) A (call (.ref 221) [.ref l] []) Q E s := by
  refine callP [("script", .ref l)] W hg rm (by rfl) (by rfl) (BindsTo.of_eq (by rfl)) (by rfl) (by rfl) (by rfl) (by rfl) (by rfl) (fun env L' h₁ tk A' is0 he rm Y => ?_)
  walk_at "lit"
  walk_at "a0"
  refine Assign_Tuple ?_ (by with_unfolding_all rfl) (sw_const (by rfl) (by rfl))
  (walk_at "a58"; walk_at "a61"; walk_at "a18"; walk_at "a61"; walk_at "a18"; walk_at "a60")
  refine newTuple_g FrOk.nil (by exact Y) (by simp [sizeLine_eq]) (fun tp g2 h4 hk2 Y htp => ?_)
  have W := W.mono hk2
  have hl := Heap.IsList.hk hl hk2
  refine assign2 rm Y htp (fun h5 Y => ?_)
  refine stv (by exact Y) he (by rfl) (fun h6 Y => ?_)
  refine stv (by exact Y) he (by rfl) (fun h7 Y => ?_)
  (walk_at "a2"; walk_at "a0"; walk_at "a62"; walk_at "a22"; walk_at "a7"; walk_at "a64"; walk_at "a65"; walk_at "a66"; walk_at "a18"; walk_at "a65")
  refine slice_l (by assumption) (by exact Heap.IsList.hk hl (by walk_at "now")) .none (.int _ _) (by have := hxs.length; omega) (by rfl) (by intro r; rfl) (fun sl h8 hsl Y => ?_)
  obtain ⟨g3, hk3, ⟨os, hos, hps⟩, Y⟩ := Y.freeze (by simp)
  have W := W.mono hk3
  have hsv := slice_ints_uptoW (y := 63) hxs (by decide)
  refine for_list (fun i g' m led => led = [] ∧ (∃ (d : Nat), ∃ t, m "digits" = some (.int d t)) ∧ ∃ (e : Nat), ∃ t, m "seed" = some (.int e t) ∧ e < 1000000007) rm he (by rfl) (by exact Y) (listOf ⟨os, hos, hps.lst⟩) FrOk.nil ⟨rfl, ⟨0, _, by walk_at "hv"⟩, 0, _, by walk_at "hv", by decide⟩ ?_ ?_ (by intro f s' q; exact q)
  · rintro i v g' m' led' h tk it I E' hv hk' ⟨rfl, ⟨d, t1, hm1⟩, e, t2, hm2, he2⟩ Y
    have W := W.mono hk'
    obtain ⟨j, t3, rfl⟩ : ∃ j t, v = .int j t := by
      obtain ⟨hi, rfl⟩ := List.getElem?_eq_some_iff.mp hv
      have hi' : i < (xs.take (63 : Int).toNat).length := by have := hsv.length; omega
      obtain ⟨t, ht⟩ := hsv.get i _ (by simpa using List.getElem?_eq_getElem hi')
      exact ⟨_, t, by rw [List.getElem?_eq_getElem hi] at ht; exact Option.some.inj ht⟩
    refine absS is0 ⟨_, rfl⟩ (fun tk0 => ?_)
    (walk_at "a0"; walk_at "a37"; walk_at "a23"; walk_at "a23"; walk_at "a7"; walk_at "a18")
    refine PyProof.Rows.mul_int ?_ (IntMulOk.of_right (by decide +kernel))
    (walk_at "a50"; walk_at "a10"; walk_at "a54"; walk_at "a61"; walk_at "a50"; walk_at "a12"; walk_at "a53"; walk_at "a61"; walk_at "a7"; walk_at "a60")
    refine call_int_int ?_
    walk_at "a60"
    refine call_abs_int (fun u tk1 => ?_)
    (walk_at "a38"; walk_at "a17"; walk_at "a2"; walk_at "a0"; walk_at "a37"; walk_at "a23"; walk_at "a23"; walk_at "a23"; walk_at "a7"; walk_at "a18")
    refine PyProof.Rows.mul_int ?_ (IntMulOk.of_right (by decide +kernel))
    (walk_at "a50"; walk_at "a12"; walk_at "a53"; walk_at "a61"; walk_at "a7"; walk_at "a60")
    refine call_int_int ?_
    (walk_at "a38"; walk_at "a18")
    refine PyProof.Rows.mod_int' (by decide) ?_
    (walk_at "a17"; walk_at "a2"; walk_at "a1"; walk_at "a4")
    have e1 : (d : Int) * 4099 + (if j < 0 then -j else j) = ((d * 4099 + j.natAbs : Nat) : Int) := by split <;> omega
    obtain ⟨e', h3, h4⟩ : ∃ e' : Nat, ((e : Int) * 523 + j).fmod 1000000007 = e' ∧ e' < 1000000007 := by
      rw [Int.fmod_eq_emod_of_nonneg _ (by decide)]
      exact ⟨(((e : Int) * 523 + j) % 1000000007).toNat, by omega, by omega⟩
    refine TurnEnd.mk (by assumption) (Hk.refl _) ⟨rfl, ⟨d * 4099 + j.natAbs, _, by rw [← e1]; walk_at "hv"⟩, e', _, by rw [← h3]; walk_at "hv", h4⟩
  · rintro g9 m9 led9 h9 tk9 hk9 ⟨rfl, ⟨d, t1, hm1⟩, e, t2, hm2, he2⟩ Y
    have W := W.mono hk9
    (walk_at "a2"; walk_at "a0"; walk_at "a36"; walk_at "a59"; walk_at "a61"; walk_at "a7"; walk_at "a61"; walk_at "a7"; walk_at "a61"; walk_at "a18"; walk_at "a60")
    refine newList_l (by exact Y) (by simp [sizeLine_eq]) (fun x hx hx Y => ?_)
    walk_at "a3"
    obtain ⟨n1, n2, o, ho, hp⟩ := Y.news List.mem_cons_self
    exact hQ x _ _ _ Y.toOut n1 n2 ⟨o, ho, d, e, 0, _, _, _, hp.lst, he2, Nat.le_refl _⟩
end
section
variable {w : World} {A : Around} {E : Value → Shared → Prop} {s : Shared} {mg mb : Str → Option Value}
variable {fr : List Addr} {g0 h0 g : Heap} {L : Addr} {m : Str → Option Value} {led : List (Addr × (Obj → Prop))} {Q : Value → Shared → Prop}
theorem draw_spec {k : Nat} {a : Addr} {many n : Nat} {t : Tok} (W : Wd w mg mb g) (hg : Hk g s.heap) (rm : Rm A (k + 1)) (ha : ∃ o, s.heap.get? a = some o ∧ isTape n o) (hga : g.get? a = none)
    (hm : 0 < many) (hm2 : many < 2 ^ 30) (hn : n < 1000)
    (hQ : ∀ (d : Nat) t g' h' tk, d < many → Out [a] g s.heap g' h' → (∃ o, h'.get? a = some o ∧ isTape (n + 1) o) → Q (.int d t) { s with heap := h', toks := tk }) :
    wpAny (Md w) A (call (.ref 228) [.ref a, .int many t] []) Q E s := by
  refine callP1 (P := isTape n) [("tape", .ref a), ("many", .int many t)] W hg rm ha hga (by rfl) (by rfl) (BindsTo.of_eq (by rfl)) (by rfl) (by rfl) (by rfl) (by rfl) (by rfl) (fun env L' h₁ tk A' is0 he rm Y => ?_)
  walk_at "lit"
  obtain ⟨o, ho, d, e, c, t1, t2, t3, hp, he2, hc⟩ := Y.at List.mem_cons_self
  have Y := Y.turn (P' := isLst [.int d t1, .int e t2, .int c t3]) (fun b o _ e => e) ⟨o, ho, hp⟩
  walk_at "a0"
  have ti : ∀ {h : Heap} {m : Str → Option Value} {vs : List Value}, Fx [a] g s.heap g L' h m [(a, isLst vs)] → h.IsList a vs.toArray := fun Y => Y.lst List.mem_cons_self
  refine mid' is0 (fun h5 => ∃ (d c : Nat) (t1 t3 : Tok), Fx [a] g s.heap g L' h5 (mOf [("tape", .ref a), ("many", .int many t)]) [(a, isLst [.int d t1, .int e t2, .int c t3])] ∧ c ≤ n + 1) ?_ ?_
  · (walk_at "af"; walk_at "a25"; walk_at "a22"; walk_at "a7"; walk_at "a18")
    refine item_l (v := .int d t1) (vs := [.int d t1, .int e t2, .int c t3]) (by decide) (by decide) (by rfl) (by exact ti Y) (by with_unfolding_all rfl) ?_
    (walk_at "a18"; walk_at "a42"; walk_at "a26")
    refine ife (fun h0 => ?_) (fun h0 => ?_)
    · (walk_at "a0"; walk_at "a48"; walk_at "a23"; walk_at "a22"; walk_at "a7"; walk_at "a18")
      refine item_l (v := .int c t3) (vs := [.int d t1, .int e t2, .int c t3]) (by decide) (by decide) (by rfl) (by exact ti Y) (by with_unfolding_all rfl) ?_
      (walk_at "a18"; walk_at "a38"; walk_at "a7"; walk_at "a18")
      refine setItem0 (by exact Y) (by decide) (by simp) (by decide) (fun h6 Y => ?_)
      obtain ⟨t3, Y⟩ : ∃ u, Fx [a] g s.heap g L' h6 (mOf [("tape", .ref a), ("many", .int many t)]) [(a, isLst [.int d t1, .int e t2, .int (c + 1 : Nat) u])] := ⟨_, Y⟩
      (walk_at "a2"; walk_at "a0"; walk_at "a48"; walk_at "a23"; walk_at "a23"; walk_at "a23"; walk_at "a22"; walk_at "a7"; walk_at "a18")
      refine item_l (v := .int e t2) (vs := [.int d t1, .int e t2, .int (c + 1 : Nat) t3]) (by decide) (by decide) (by rfl) (by exact ti Y) (by with_unfolding_all rfl) ?_
      (walk_at "a23"; walk_at "a18"; walk_at "a22"; walk_at "a7"; walk_at "a18")
      refine item_l (v := .int (c + 1 : Nat) t3) (vs := [.int d t1, .int e t2, .int (c + 1 : Nat) t3]) (by decide) (by decide) (by rfl) (by exact ti Y) (by with_unfolding_all rfl) ?_
      skip
      refine PyProof.Rows.mul_int ?_ (IntMulOk.of_left (by decide +kernel))
      (walk_at "a38"; walk_at "a18")
      refine PyProof.Rows.pow_int (by decide) (pow_fits (e + 140009 * (c + 1)) ⟨by omega, by omega⟩) ?_
      walk_at "a18"
      refine PyProof.Rows.mod_int' (by decide) ?_
      generalize hpw : (((e : Int) + 140009 * ((c + 1 : Nat) : Int)) ^ (3 : Int).toNat).fmod 1000000007 = pw
      obtain ⟨d', hd'⟩ : ∃ d' : Nat, pw = d' := by
        rw [← hpw, Int.fmod_eq_emod_of_nonneg _ (by decide)]
        exact ⟨((((e : Int) + 140009 * ((c + 1 : Nat) : Int)) ^ (3 : Int).toNat) % 1000000007).toNat, by omega⟩
      subst hd'
      (walk_at "a7"; walk_at "a18")
      refine setItem0 (by exact Y) (by decide) (by simp) (by decide) (fun h7 Y => ?_)
      (walk_at "a2"; walk_at "a1")
      exact NextAnd.mk ⟨d', c + 1, _, _, Y, by omega⟩
    · walk_at "a1"
      exact NextAnd.mk ⟨d, c, t1, t3, Y, by omega⟩
  rintro h5 tk5 ⟨d, c, t1, t3, Y, hc⟩
  (walk_at "a0"; walk_at "a37"; walk_at "a23"; walk_at "a22"; walk_at "a7"; walk_at "a18")
  refine item_l (v := .int d t1) (vs := [.int d t1, .int e t2, .int c t3]) (by decide) (by decide) (by rfl) (by exact ti Y) (by with_unfolding_all rfl) ?_
  walk_at "a7"
  refine PyProof.Rows.mod_int' (by omega) ?_
  rw [show (d : Int).fmod (many : Int) = ((d % many : Nat) : Int) from by rw [Int.fmod_eq_emod_of_nonneg _ (by omega)]; rfl]
  (walk_at "a17"; walk_at "a2"; walk_at "a0"; walk_at "a48"; walk_at "a23"; walk_at "a22"; walk_at "a7"; walk_at "a18")
  refine item_l (v := .int d t1) (vs := [.int d t1, .int e t2, .int c t3]) (by decide) (by decide) (by rfl) (by exact ti (by assumption)) (by with_unfolding_all rfl) ?_
  walk_at "a7"
  refine PyProof.Rows.floordiv_int (by omega) ?_ (Or.inl (noPylong_many hm2))
  rw [show (d : Int).fdiv (many : Int) = ((d / many : Nat) : Int) from by rw [Int.fdiv_eq_ediv_of_nonneg _ (by omega)]; rfl]
  (walk_at "a7"; walk_at "a18")
  refine setItem0 (by assumption) (by decide) (by simp) (by decide) (fun h7 Y => ?_)
  (walk_at "a2"; walk_at "a0"; walk_at "a36"; walk_at "a7"; walk_at "a3")
  obtain ⟨o, ho, hp⟩ := Y.at List.mem_cons_self
  exact hQ _ _ _ _ _ (Nat.mod_lt _ hm) Y.toOut ⟨o, ho, d / many, e, c, _, _, _, hp, he2, hc⟩
end
section
variable {w : World} {A : Around} {E : Value → Shared → Prop} {s : Shared} {mg mb : Str → Option Value}
variable {fr : List Addr} {g0 h0 g : Heap} {L : Addr} {m : Str → Option Value} {led : List (Addr × (Obj → Prop))} {Q : Value → Shared → Prop}
theorem bits_spec {k : Nat} {n : Nat} {t : Tok} (W : Wd w mg mb g) (hg : Hk g s.heap) (rm : Rm A (k + 1))
    (hQ : ∀ x vs g' h' tk, Out [] g s.heap g' h' → g'.PlainList x (List.toArray vs) → IntsAre vs (nats (bitsOf n)) → Q (.ref x) { s with heap := h', toks := tk }) :
    wpAny (Md w) A (call (.ref 233) [.int n t] []) Q E s := by
  refine callPC [("number", .int n t)] [] [("number", .int n t)] (fun n => [("number", n + 1)])
    W hg rm (by rfl) (by rfl) (BindsTo.of_eq (by rfl)) (by intro n; rfl) (by intro n; rfl) (by intro n; simp) (by rfl) (by rfl) (by rfl) (by rfl) (by rfl) (fun env L' h₁ tk A' is0 he rm Y => ?_)
  walk_at "lit"
  have Y : Fx [] g s.heap g L' h₁ _ [(L' + 1, isCell (some (.int n t)))] := Y
  (walk_at "a0"; walk_at "a36")
  refine ListComp_ (cl' := [("number", L' + 1)]) (closureFor_cells he.cells (by rfl) (by rfl)) (by rfl) (by rfl) ?_ (by intro _; with_unfolding_all rfl)
  (walk_at "a50"; walk_at "a11"; walk_at "a53"; walk_at "a61"; walk_at "a18"; walk_at "a60")
  refine range_g FrOk.nil (by exact Y) (fun r g1 h2 tk2 ta tb tc hk1 Y hr => ?_)
  refine comp_range (n := 200) rm he (by exact Y) hr (fun i g' ys => IntsAre ys (nats ((List.range i).filter fun p => n / 2 ^ p % 2 = 1)) ∧ ys.length ≤ i ∧ i ≤ 200) ⟨.nil, by simp, by omega⟩ (by omega) (fun i g ys hJ => by omega) (by rfl) (by rfl) (by rfl) ?_ ?_
  · rintro i g3 ys C D I3 h3 tk3 mc it3 cenv E3 t3 hce hi hk3 ⟨hys, hyl, _⟩ Z
    have hb := bits_succ n i
    refine testsOf_one ?_
    (walk_at "a25"; walk_at "a23"; walk_at "a23")
    refine ldcH (v := .int n t) (c := L' + 1) (by exact Z) hce (by rfl) (by rfl) (Y.at (P := isCell (some (.int n t))) (by simp)) (by simp) ?_
    (walk_at "a23"; walk_at "a18"; walk_at "a7")
    refine PyProof.Rows.pow_int (by omega) (by rw [show Builtin.Int.intBits 2 = 2 from by decide +kernel]; omega) ?_
    rw [Int.toNat_natCast]
    refine PyProof.Rows.floordiv_int (by exact Int.pow_ne_zero (by decide)) ?_ (Or.inl (noPylong_two hi))
    walk_at "a18"
    refine PyProof.Rows.mod_int' (by decide) ?_
    have e2 : ((n : Int).fdiv (2 ^ i)).fmod 2 = ((n / 2 ^ i % 2 : Nat) : Int) := by
      rw [Int.fmod_eq_emod_of_nonneg _ (by decide), Int.fdiv_eq_ediv_of_nonneg _ (Int.pow_nonneg (by decide))]
      rw [show ((2 : Int) ^ i) = ((2 ^ i : Nat) : Int) from by simp]
      rfl
    rw [e2]
    (walk_at "a18"; walk_at "a42"; walk_at "a26")
    refine ife (fun h1 => ?_) (fun h1 => ?_)
    · rw [if_pos (by omega)] at hb
      walk_at "a7"
      refine EltEnd.mk (by assumption) (Hk.refl _) ⟨?_, by simp; omega, by omega⟩
      rw [hb, nats_append]
      exact hys.append (.cons _ _ .nil)
    · rw [if_neg (by omega), List.append_nil] at hb
      refine ⟨_, _, _, _, rfl, Hk.refl _, Z, ?_⟩
      exact ⟨by rw [hb]; exact hys, by omega, by omega⟩
  · rintro D g1' g2 ys h6 tk6 hk1' hk2 hDn ⟨hys, hyl, _⟩ hD Z
    walk_at "a3"
    exact hQ D ys _ _ _ Z.toOut hD hys
end
section
variable {w : World} {A : Around} {E : Value → Shared → Prop} {s : Shared} {mg mb : Str → Option Value} {env : Env} {sc : Scope} {cl : List (Str × Addr)}
variable {fr : List Addr} {g0 h0 g : Heap} {L : Addr} {m : Str → Option Value} {led : List (Addr × (Obj → Prop))} {Q : Value → Shared → Prop}
/-- the names of the places -/
theorem dcomp {k : Nat} {p1 p2 p3 p4 p5 p6 p7 p8 : Pos} {pa : Addr} {bv : List Value} {bs : List Nat} (rm : Rm A k) (W : Wd w mg mb g) (he : EnvIs env sc L cl) (Y : Fx fr g0 h0 g L s.heap m led) (hxp : sc.names.lookup ("places" : Str) = some NameKind.local) (hm : m "places" = some (.ref pa))
    (hpa : g.IsList pa bv.toArray) (hb : IntsAre bv (nats bs)) (hlt : ∀ b ∈ bs, b < 200) (hlen : bs.length ≤ 200)
    (hQ : ∀ D vs g' h' tk, Hk g g' → Fx fr g0 h0 g' L h' m led → g'.PlainList D (List.toArray vs) → StrsAre vs (bs.map dn) → Q (.ref D) { s with heap := h', toks := tk }) :
    wpAny (Md w) A (eval (.ListComp (.BinOp (.Constant (.str "d") 0 p1) .Add (.Call (.Name "str" p2) [.Name "place" p3] [] p4) p5) [⟨.Name "place" p6, .Name "places" p7, [], 0⟩]
      { kind := .function, names := [(".0", .local), ("place", .local), ("str", .globalImplicit)], isGenerator := false, isCoroutine := false } p8) env) Q E s := by
  have hbl : bv.length = bs.length := by have := hb.length; simpa using this
  refine ListComp_ (cl' := []) (closureFor_none (by decide)) (by rfl) (by rfl) ?_ (by intro _; with_unfolding_all rfl)
  refine ldv Y he hxp hm ?_
  refine comp_list rm he (by exact Y) hpa (fun i g' ys => ys.length = i ∧ i ≤ 200 ∧ StrsAre ys ((bs.take i).map dn)) ⟨rfl, by omega, .nil⟩ (by omega) (fun i g ys hJ => by omega) (by rfl) (by rfl) (by rfl) ?_ ?_
  · rintro i v g3 ys C D I3 h3 tk3 mc it3 cenv E3 hce hv3 hk3 ⟨hyl, hj5, hys⟩ Z
    have W := W.mono hk3
    obtain ⟨hi, t, rfl⟩ := nat_at hb hv3
    have hi2 := hlt _ (List.getElem_mem hi)
    refine testsOf_nil ?_
    refine ift ?_
    (walk_at "a23"; walk_at "a19"; walk_at "a50"; walk_at "a16"; walk_at "a53"; walk_at "a61"; walk_at "a7"; walk_at "a60")
    refine str_i (by omega) (fun t1 tk1 => ?_)
    skip
    refine add_d (by omega) (fun t2 tk2 => ?_)
    refine EltEnd.mk Z (Hk.refl _) ⟨by simp [hyl], by omega, ?_⟩
    rw [List.take_succ_eq_append_getElem hi, List.map_append]
    exact strs_append hys (.cons _ _ .nil)
  · rintro D g1 g2 ys h6 tk6 hk1 hk2 hDn ⟨hyl, _, hys⟩ hD Z
    rw [hbl, List.take_length] at hys
    exact hQ D ys g2 h6 tk6 (hk1.trans hk2) Z hD hys
end
section
variable {w : World} {A : Around} {E : Value → Shared → Prop} {s : Shared} {mg mb : Str → Option Value} {env : Env} {sc : Scope} {cl : List (Str × Addr)}
variable {fr : List Addr} {g0 h0 g : Heap} {L : Addr} {m : Str → Option Value} {led : List (Addr × (Obj → Prop))} {Q : Value → Shared → Prop}
/-- a pair of a name and two parts, written out -/
theorem pair2 {l a b : Str} {p1 p2 p3 p4 p5 : Pos} (f : FrOk fr h0) (X : Fx fr g0 h0 g L s.heap m led)
    (hQ : ∀ v g' h' tk, Hk g g' → Fx fr g0 h0 g' L h' m led → PairAt g' v (l, [a, b]) → Q v { s with heap := h', toks := tk }) :
    wpAny (Md w) A (eval (.Tuple [.Constant (.str l) 0 p1, .List [.Constant (.str a) 0 p2, .Constant (.str b) 0 p3] p4] 0 p5) env) Q E s := by
  (walk_at "a58"; walk_at "a61"; walk_at "a19"; walk_at "a61"; walk_at "a59"; walk_at "a61"; walk_at "a19"; walk_at "a61"; walk_at "a19"; walk_at "a60")
  refine newList_g f (by exact X) (by simp [sizeLine_eq]) (fun l1 g1 h1 hk1 X h1l => ?_)
  walk_at "a60"
  refine newTuple_g f (by exact X) (by simp [sizeLine_eq]) (fun T g2 h2 hk2 X hT => ?_)
  exact hQ _ g2 h2 _ (hk1.trans hk2) X ⟨T, _, l1, _, rfl, hT, Heap.IsList.hk h1l hk2, .cons _ _ (.cons _ _ .nil)⟩
theorem pair1 {l a : Str} {p1 p2 p4 p5 : Pos} (f : FrOk fr h0) (X : Fx fr g0 h0 g L s.heap m led)
    (hQ : ∀ v g' h' tk, Hk g g' → Fx fr g0 h0 g' L h' m led → PairAt g' v (l, [a]) → Q v { s with heap := h', toks := tk }) :
    wpAny (Md w) A (eval (.Tuple [.Constant (.str l) 0 p1, .List [.Constant (.str a) 0 p2] p4] 0 p5) env) Q E s := by
  (walk_at "a58"; walk_at "a61"; walk_at "a19"; walk_at "a61"; walk_at "a59"; walk_at "a61"; walk_at "a19"; walk_at "a60")
  refine newList_g f (by exact X) (by simp [sizeLine_eq]) (fun l1 g1 h1 hk1 X h1l => ?_)
  walk_at "a60"
  refine newTuple_g f (by exact X) (by simp [sizeLine_eq]) (fun T g2 h2 hk2 X hT => ?_)
  exact hQ _ g2 h2 _ (hk1.trans hk2) X ⟨T, _, l1, _, rfl, hT, Heap.IsList.hk h1l hk2, .cons _ _ .nil⟩
/-- two lists that stand still, one behind the other -/
theorem add_g {l b : Addr} {vs us : List Value} (f : FrOk fr h0) (X : Fx fr g0 h0 g L s.heap m led) (hl : g.IsList l vs.toArray) (hb : g.IsList b us.toArray) (hsz : vs.length + us.length ≤ 100000)
    (hQ : ∀ a g' h', Hk g g' → Fx fr g0 h0 g' L h' m led → g'.IsList a (vs ++ us).toArray → Q (.ref a) { s with heap := h' }) : wpAny (Md w) A (binaryOp .Add (.ref l) (.ref b)) Q E s :=
  add_lst X (Heap.IsList.hk hl X.now) (Heap.IsList.hk hb X.now) hsz fun a h' ha Y => by
    obtain ⟨g', hk, ⟨o, ho, hp⟩, Z⟩ := Y.freeze (f.off X ha)
    exact hQ a g' h' hk Z (listOf ⟨o, ho, hp.lst⟩)
/-- a list that stands still, turned round -/
theorem rev_g {value slice : Expr} {l : Addr} {vs : List Value} {vk : Value} {ops : List Value} (f : FrOk fr h0) (X : Fx fr g0 h0 g L s.heap m led) (hl : g.IsList l vs.toArray) (pk : IsPart vk (some (-1))) (hsz : vs.length ≤ 100000)
    (hs : subscripted slice false (.ref l) (.ref s.heap.objs.size) = operate ops (getItem (.ref l) (.ref s.heap.objs.size))) (ht : ∀ r, letTemporaryGo value (.ref l) r = pure ())
    (hQ : ∀ a g' h', Hk g g' → Fx fr g0 h0 g' L h' m led → g'.IsList a vs.reverse.toArray → Q (.ref a) { s with heap := h' }) :
    wpAny (Md w) A (subscriptTail value slice (.ref l) (.ref s.heap.objs.size)) Q E { s with heap := s.heap.push { cls := .type "slice", data := .fields #[.none, .none, vk] } } :=
  rev_l X (Heap.IsList.hk hl X.now) pk hsz hs ht fun a h' ha Y => by
    obtain ⟨g', hk, ⟨o, ho, hp⟩, Z⟩ := Y.freeze (f.off X ha)
    exact hQ a g' h' hk Z (listOf ⟨o, ho, hp.lst⟩)
/-- a list of ints != [] -/
theorem ne_nil {a b : Addr} {vs : List Value} {bs : List Nat} (hl : s.heap.IsList a vs.toArray) (hi : IntsAre vs (nats bs)) (hb : s.heap.IsList b (List.toArray [])) (hu : A.units < cLine)
    (h : Q (.bool (!decide (bs = []))) s) : wpAny (Md w) A (compareOp .NotEq (.ref a) (.ref b)) Q E s := by
  show wpAny _ A (richCompare .NotEq _ _) Q E s
  have hlen := hi.length
  cases bs with
  | nil =>
    have e : vs = [] := List.length_eq_zero_iff.mp (by simpa using hlen)
    subst e
    exact PySem.SeqAt.RcNeAt.lists (e := fun _ => true) hl hb rfl hu (fun j h1 _ => absurd h1 (Nat.not_lt_zero _)) _ _ _ _ h
  | cons c bs =>
    exact PySem.SeqAt.RcNeAt.lists_lengths hl hb (by simp at hlen ⊢; intro q; subst q; simp at hlen) hu _ _ _ _ h
end
section
variable {w : World} {A : Around} {E : Value → Shared → Prop} {s : Shared} {mg mb : Str → Option Value}
variable {fr : List Addr} {g0 h0 g : Heap} {L : Addr} {m : Str → Option Value} {led : List (Addr × (Obj → Prop))} {Q : Value → Shared → Prop}
theorem Fx.draw {k : Nat} {a : Addr} {many n : Nat} {t : Tok} (X : Fx fr g0 h0 g L s.heap m ((a, isTape n) :: led)) (W : Wd w mg mb g) (rm : Rm A (k + 1))
    (hm : 0 < many) (hm2 : many < 2 ^ 30) (hn : n < 1000)
    (hQ : ∀ (d : Nat) t g' h' tk, d < many → Hk g g' → Fx fr g0 h0 g' L h' m ((a, isTape (n + 1)) :: led) → Q (.int d t) { s with heap := h', toks := tk }) :
    wpAny (Md w) A (call (.ref 228) [.ref a, .int many t] []) Q E s :=
  draw_spec W X.now rm (X.at List.mem_cons_self) (X.led_ _ List.mem_cons_self).2.2.1 hm hm2 hn fun d t g' h' tk hd O ho => hQ d t g' h' tk hd O.old (X.outT O ho)
theorem grammar_pairs_spec {k : Nat} {a : Addr} {n : Nat} (W : Wd w mg mb g) (hg : Hk g s.heap) (rm : Rm A (k + 2)) (ha : ∃ o, s.heap.get? a = some o ∧ isTape n o) (hga : g.get? a = none) (hn : n < 100)
    (hQ : ∀ T pl d g' h' tk size f r pv kvs, Out [a] g s.heap g' h' → (∃ o, h'.get? a = some o ∧ isTape (n + 10) o) → g'.IsTuple T #[.ref pl, .ref d] → g'.IsList pl (List.toArray pv) → PairsAre g' pv (ppOf size f r) → size < 2 ^ 200 →
      s.heap.get? d = none → g'.get? d = none → (∃ o, h'.get? d = some o ∧ isDS w kvs o) → (d == sysModules) = false → LensAre kvs (lensOf size) → kvs.length < 300 → Q (.ref T) { s with heap := h', toks := tk }) :
    wpAny (Md w) A (call (.ref 238) [.ref a] []) Q E s := by
  refine callP1 (P := isTape n) [("tape", .ref a)] W hg rm ha hga (by rfl) (by rfl) (BindsTo.of_eq (by rfl)) (by rfl) (by rfl) (by rfl) (by rfl) (by rfl) (fun env L' h₁ tk A' is0 he rm Y => ?_)
  walk_at "lit"
  have f : FrOk [a] s.heap := fun b hb => by rw [List.mem_singleton.mp hb]; obtain ⟨o, ho, _⟩ := ha; exact ⟨o, ho⟩
  (walk_at "a0"; walk_at "a37"; walk_at "a50"; walk_at "a8"; walk_at "a51"; walk_at "a61"; walk_at "a7"; walk_at "a61"; walk_at "a18"; walk_at "a60"; walk_at "a55")
  refine Fx.draw (k := k) (many := 8) (by assumption) W (rm.less (by omega)) (by decide) (by decide) (by omega) (fun way tw g1 h1 tk1 hway hk1 Y => ?_)
  have W := W.mono hk1
  (walk_at "a17"; walk_at "a2"; walk_at "a0"; walk_at "a37"; walk_at "a22"; walk_at "a58"; walk_at "a61"; walk_at "a18"; walk_at "a61"; walk_at "a18"; walk_at "a61"; walk_at "a18"; walk_at "a61"; walk_at "a50"; walk_at "a8"; walk_at "a51"; walk_at "a61"; walk_at "a7"; walk_at "a61"; walk_at "a18"; walk_at "a60"; walk_at "a55")
  refine Fx.draw (k := k) (many := 60) (by assumption) W (rm.less (by omega)) (by decide) (by decide) (by omega) (fun d1 t1 g2 h2 tk2 hd1 hk2 Y => ?_)
  have W := W.mono hk2
  (walk_at "a61"; walk_at "a18"; walk_at "a61"; walk_at "a23"; walk_at "a23"; walk_at "a18"; walk_at "a18")
  refine PyProof.Rows.pow_int (by decide) (by decide +kernel) ?_
  (walk_at "a50"; walk_at "a8"; walk_at "a51"; walk_at "a61"; walk_at "a7"; walk_at "a61"; walk_at "a18"; walk_at "a60"; walk_at "a55")
  refine Fx.draw (k := k) (many := 9) (by assumption) W (rm.less (by omega)) (by decide) (by decide) (by omega) (fun d2 t2 g3 h3 tk3 hd2 hk3 Y => ?_)
  have W := W.mono hk3
  (walk_at "a38"; walk_at "a61"; walk_at "a23"; walk_at "a18"; walk_at "a18")
  refine PyProof.Rows.pow_int (by decide) (by decide +kernel) ?_
  (walk_at "a61"; walk_at "a23"; walk_at "a18"; walk_at "a50"; walk_at "a8"; walk_at "a51"; walk_at "a61"; walk_at "a7"; walk_at "a61"; walk_at "a18"; walk_at "a60"; walk_at "a55")
  refine Fx.draw (k := k) (many := 4) (by assumption) W (rm.less (by omega)) (by decide) (by decide) (by omega) (fun d3 t3 g4 h4 tk4 hd3 hk4 Y => ?_)
  have W := W.mono hk4
  (walk_at "a38"; walk_at "a60")
  refine absS is0 ⟨_, rfl⟩ (fun tk9 => ?_)
  refine newTuple_g f (by exact Y) (by simp [sizeLine_eq]) (fun tp g5 h5 hk5 Y htp => ?_)
  have htp' : ∃ vs, g5.IsTuple tp (List.toArray vs) ∧ ∃ (size : Nat) (t : Tok), vs[way]? = some (.int size t) ∧ size < 2 ^ 200 := by
    refine ⟨_, htp, ?_⟩
    have : way = 0 ∨ way = 1 ∨ way = 2 ∨ way = 3 ∨ way = 4 ∨ way = 5 ∨ way = 6 ∨ way = 7 := by omega
    rcases this with rfl | rfl | rfl | rfl | rfl | rfl | rfl | rfl
    · exact ⟨9999, _, rfl, by decide⟩
    · exact ⟨10000, _, rfl, by decide⟩
    · exact ⟨10001, _, rfl, by decide⟩
    · exact ⟨d1, _, rfl, by omega⟩
    · exact ⟨5000, _, rfl, by decide⟩
    · exact ⟨2 ^ 60 + d2, _, rfl, by omega⟩
    · exact ⟨10 ^ 50, _, rfl, by decide⟩
    · exact ⟨4999 + d3, _, rfl, by omega⟩
  clear htp
  obtain ⟨vs, htp, size, ts, hsv, hsz⟩ := htp'
  have W := W.mono hk5
  walk_at "a7"
  refine item_tup_at hsv (by omega) (by exact Heap.IsTuple.hk htp Y.now) (by with_unfolding_all rfl) ?_
  (walk_at "a17"; walk_at "a2"; walk_at "a0"; walk_at "a37"; walk_at "a50"; walk_at "a8"; walk_at "a51"; walk_at "a61"; walk_at "a7"; walk_at "a60"; walk_at "a55")
  refine bits_spec (k := k) W (by walk_at "now") (rm.less (by omega)) (fun pa bv g6 h6 tk6 O hpa hbv => ?_)
  have Y := Fx.out (by assumption) O
  have W := W.mono O.old
  have hpl := hbv.length
  (walk_at "a17"; walk_at "a2"; walk_at "a0"; walk_at "a37")
  refine midv is0 (fun v h => ∃ t, v = .int (topOf size) t ∧ Fx [a] g s.heap g6 L' h (mset (mset (mset (mOf [("tape", .ref a)]) "way" (.int way tw)) "size" (.int size ts)) "places" (.ref pa)) [(a, isTape (n + 4))]) ?_ ?_
  · (walk_at "a28"; walk_at "a25"; walk_at "a7"; walk_at "a59"; walk_at "a60")
    refine absS is0 ⟨_, rfl⟩ (fun tk9 => ?_)
    refine newList_l (by assumption) (by simp [sizeLine_eq]) (fun el h7 hel Y => ?_)
    skip
    refine ne_nil (by exact (PlainHk hpa Y.now).isList) hbv (by exact (Y.pl List.mem_cons_self).isList) rm.units ?_
    have Y := Y.drop
    walk_at "a26"
    refine iff_ (fun h0 => ?_) (fun h0 => ?_)
    · (walk_at "a22"; walk_at "a7"; walk_at "a27"; walk_at "a18"; walk_at "a43")
      have hne : bitsOf size ≠ [] := by simpa using h0
      have hlast : ∃ t, bv.getLast? = some (.int (topOf size) t) := by
        have h1 : bv.length - 1 < bv.length := by have := List.length_pos_iff.mpr hne; simp at hpl; omega
        have h2 := List.getElem?_eq_getElem h1
        obtain ⟨hi, t, e⟩ := nat_at hbv h2
        refine ⟨t, ?_⟩
        rw [List.getLast?_eq_getElem?, h2, e]
        unfold topOf
        rw [List.getLast?_eq_getElem?]
        have e3 : (bitsOf size).length - 1 = bv.length - 1 := by simp at hpl; omega
        rw [e3, List.getElem?_eq_getElem hi]
        rfl
      obtain ⟨t, hlast⟩ := hlast
      refine item_last hlast (by exact (PlainHk hpa Y.now).isList) (by with_unfolding_all rfl) ?_
      exact ValAnd.mk ⟨t, rfl, Y⟩
    · walk_at "a18"
      have he : bitsOf size = [] := by simpa using h0
      exact ValAnd.mk ⟨_, by unfold topOf; rw [he]; rfl, Y⟩
  rintro v h7 tk7 ⟨tt, rfl, Y⟩
  (walk_at "a17"; walk_at "a2"; walk_at "a0"; walk_at "a37")
  rename_i h8 Y _
  refine absS is0 ⟨_, rfl⟩ (fun tk8 => ?_)
  refine dict_show (SK w) W Y (by rfl) (by rfl) (by simp) (by simp) (fun d h9 hdn hdn0 hds Y => ?_)
  refine absS (h := h9) is0 ⟨_, rfl⟩ (fun tk8 => ?_)
  refine pairTrees_cons_walk ?_
  (walk_at "a19"; walk_at "a18")
  refine absS (h := h9) is0 ⟨_, rfl⟩ (fun tk8 => ?_)
  refine pairTrees_cons_walk ?_
  (walk_at "a19"; walk_at "a18")
  refine absS (h := h9) is0 ⟨_, rfl⟩ (fun tk8 => ?_)
  refine pairTrees_cons_walk ?_
  (walk_at "a19"; walk_at "a7")
  refine absS (h := h9) is0 ⟨_, rfl⟩ (fun tk8 => ?_)
  refine pairTrees_cons_walk ?_
  (walk_at "a19"; walk_at "a23"; walk_at "a7"; walk_at "a18"; walk_at "a38")
  refine absS (h := h9) is0 ⟨_, rfl⟩ (fun tk8 => ?_)
  refine pairTrees_cons_walk ?_
  (walk_at "a19"; walk_at "a23"; walk_at "a18"; walk_at "a7")
  refine PyProof.Rows.mul_int ?_ (IntMulOk.of_left (by decide +kernel))
  refine absS (h := h9) is0 ⟨_, rfl⟩ (fun tk8 => ?_)
  refine pairTrees_cons_walk ?_
  (walk_at "a19"; walk_at "a7")
  refine pairTrees_nil_walk ?_
  refine ⟨[("a", _), ("d0", _), ("w", _), ("more", _), ("twice", _), ("either", _)], ⟨sk w _ _, rfl, sk w _ _, rfl, sk w _ _, rfl, sk w _ _, rfl, sk w _ _, rfl, sk w _ _, rfl, trivial⟩, rfl, fun h' tk' Y => ?_⟩
  obtain ⟨m8, kvs, hkv, hkl, hma, hmb, hmc, hmd, Y⟩ : ∃ m8 kvs, LensAre kvs (len0 size) ∧ kvs.length ≤ 6 ∧ m8 "tape" = some (.ref a) ∧ m8 "size" = some (.int size ts) ∧ m8 "places" = some (.ref pa) ∧ m8 "top" = some (.int (topOf size) tt) ∧ Fx [a] g s.heap g6 L' h' m8 [(d, isDS w kvs), (a, isTape (n + 4))] :=
    ⟨_, kvs0 size _ _ _ _ _ _, kvs0_lens _ _ _ _ _ _ _, kvs0_len _ _ _ _ _ _ _, by walk_at "hv", by walk_at "hv", by walk_at "hv", by walk_at "hv", Y⟩
  refine absS is0 ⟨_, rfl⟩ (fun tk8 => ?_)
  (walk_at "a17"; walk_at "a2"; walk_at "a0"; walk_at "a37"; walk_at "a59"; walk_at "a61"; walk_at "a58"; walk_at "a61"; walk_at "a19"; walk_at "a61"; walk_at "a59"; walk_at "a61"; walk_at "a19"; walk_at "a60")
  rename_i h10 Y _
  refine newList_g f (by exact Y) (by simp [sizeLine_eq]) (fun l0 g7 h11 hk7 Y hl0 => ?_)
  have W := W.mono hk7
  walk_at "a60"
  refine newTuple_g f (by exact Y) (by simp [sizeLine_eq]) (fun T0 g8 h12 hk8 Y hT0 => ?_)
  have W := W.mono hk8
  have hP0 : PairAt g8 (.ref T0) ("d0", ["a"]) := ⟨T0, _, l0, _, rfl, hT0, Heap.IsList.hk hl0 hk8, .cons _ _ .nil⟩
  have hpa := PlainHk hpa (hk7.trans hk8)
  walk_at "a60"
  refine absS (h := h12) is0 ⟨_, rfl⟩ (fun tk8 => ?_)
  refine newList_l (by exact Y) (by simp [sizeLine_eq]) (fun pl h13 hplf Y => ?_)
  (walk_at "a17"; walk_at "a2"; walk_at "a0"; walk_at "a62"; walk_at "a50"; walk_at "a11"; walk_at "a53"; walk_at "a61"; walk_at "a7"; walk_at "a60")
  refine range_g f (by assumption) (fun r g9 h14 tk14 ta tb tc hk9 Y hr => ?_)
  have W := W.mono hk9
  have hpa := PlainHk hpa hk9
  have htop := top_lt size
  refine for_range (n := topOf size) (fun i g' m led => ∃ kvs pv, led = [(pl, isPl pv), (d, isDS w kvs), (a, isTape (n + 4))] ∧ PairsAre g' pv (basePP i) ∧ LensAre kvs (lenAt size i) ∧ kvs.length ≤ 6 + i ∧ m "tape" = some (.ref a) ∧ m "size" = some (.int size ts) ∧ m "places" = some (.ref pa) ∧ m "lengths" = some (.ref d) ∧ m "pairs" = some (.ref pl)) rm he (by rfl) (by exact Y) (Y.now _ _ hr) (by omega) f
    ⟨kvs, _, rfl, (PairsAre.one hP0).hk hk9, hkv, hkl, by walk_at "hv", by walk_at "hv", by walk_at "hv", by walk_at "hv", by walk_at "hv"⟩ ?_ ?_ (by intro f s' q; exact q)
  · rintro i g' m' led' h tk it I E' ti hi hk' ⟨kvs, pv, rfl, hpv, hkv, hkl, hm1, hm2, hm3, hm4, hm5⟩ Y
    have W := W.mono hk'
    refine absS (h := h) is0 ⟨_, rfl⟩ (fun tk0 => ?_)
    have hpvl := hpv.1
    have hpvl2 : pv.length = i + 1 := by rw [hpvl]; simp [basePP]
    (walk_at "a0"; walk_at "a57"; walk_at "a49"; walk_at "a7")
    refine meth_list (Y.pl (vs := pv) (by simp)) PySem.F.slot_list_append PySem.F.type_list_append ?_
    (walk_at "a54"; walk_at "a61"; walk_at "a58"; walk_at "a61"; walk_at "a23"; walk_at "a19"; walk_at "a50"; walk_at "a16"; walk_at "a53"; walk_at "a61"; walk_at "a23"; walk_at "a7"; walk_at "a18"; walk_at "a38"; walk_at "a60")
    refine str_i (i := i + 1) (by omega) (fun t1 tk1 => ?_)
    skip
    refine add_d (i := i + 1) (by omega) (fun tD tk2 => ?_)
    (walk_at "a61"; walk_at "a59"; walk_at "a61"; walk_at "a23"; walk_at "a19"; walk_at "a50"; walk_at "a16"; walk_at "a53"; walk_at "a61"; walk_at "a7"; walk_at "a60")
    refine str_i (i := i) (by omega) (fun t1 tk1 => ?_)
    skip
    refine add_d (i := i) (by omega) (fun tE tk2 => ?_)
    (walk_at "a61"; walk_at "a23"; walk_at "a19"; walk_at "a50"; walk_at "a16"; walk_at "a53"; walk_at "a61"; walk_at "a7"; walk_at "a60")
    refine str_i (i := i) (by omega) (fun t1 tk1 => ?_)
    skip
    refine add_d (i := i) (by omega) (fun tF tk2 => ?_)
    walk_at "a60"
    refine newList_g f (by exact Y) (by simp [sizeLine_eq]) (fun l1 g7 h11 hk7 Y hl1 => ?_)
    walk_at "a60"
    refine newTuple_g f (by exact Y) (by simp [sizeLine_eq]) (fun T1 g8 h12 hk8 Y hT1 => ?_)
    have hP1 : PairAt g8 (.ref T1) (dPP i) := ⟨T1, _, l1, _, rfl, hT1, Heap.IsList.hk hl1 hk8, .cons _ _ (.cons _ _ .nil)⟩
    have W := W.mono (hk7.trans hk8)
    walk_at "a60"
    refine append0 (by exact Y.pick [_]) (by rw [sizeLine_eq]; omega) (fun h5 Y => ?_)
    have Y := Y.unpick [_]
    (walk_at "a2"; walk_at "a0"; walk_at "a48"; walk_at "a23"; walk_at "a18"; walk_at "a23"; walk_at "a7"; walk_at "a18"; walk_at "a38")
    refine PyProof.Rows.pow_int (by omega) (by rw [show Builtin.Int.intBits 2 = 2 from by decide +kernel]; omega) ?_
    (walk_at "a7"; walk_at "a23"; walk_at "a19"; walk_at "a50"; walk_at "a16"; walk_at "a53"; walk_at "a61"; walk_at "a23"; walk_at "a7"; walk_at "a18"; walk_at "a38"; walk_at "a60")
    refine str_i (i := i + 1) (by omega) (fun t1 tk1 => ?_)
    skip
    refine add_d (i := i + 1) (by omega) (fun tG tk2 => ?_)
    skip
    have Y := Y.pick [_, _]
    refine dset0 (knd := SK w) (kvs := kvs) (sk w _ _) (by omega) (by exact Y) (fun h6 Y => ?_)
    have Y := Y.unpick [_, _]
    (walk_at "a2"; walk_at "a1"; walk_at "a4")
    have e2 : ((2 : Int) ^ ((i : Int) + 1).toNat) = ((2 ^ (i + 1) : Nat) : Int) := by
      rw [show ((i : Int) + 1).toNat = i + 1 from by omega]; simp
    rw [e2] at Y
    have hk78 := hk7.trans hk8
    refine TurnEnd.mk Y hk78 ⟨_, _, rfl, by rw [basePP_succ]; exact (hpv.hk hk78).append (.one hP1), by rw [lenAt_succ]; exact hkv.set _ _ _, ?_, by walk_at "hv", by walk_at "hv", by walk_at "hv", by walk_at "hv", by walk_at "hv"⟩
    exact Nat.le_trans (stored_length_le _ _ _) (by omega)
  rintro g10 m10 led10 h10 tk10 hk10 ⟨kvs, pv, rfl, hpv, hkv, hkl, hm1, hm2, hm3, hm4, hm5⟩ Y
  have W := W.mono hk10
  have hpa := PlainHk hpa hk10
  refine absS (h := h10) is0 ⟨_, rfl⟩ (fun tk0 => ?_)
  have hbl := hbv.length
  have hpla : pl ≠ a := fun q => by have := Y.nd; simp [q] at this
  obtain ⟨g11, hk11, ⟨opl, hopl, hppl⟩, Y⟩ := Y.freeze (by simpa using hpla)
  have W := W.mono hk11
  have hpa := PlainHk hpa hk11
  have hpv := hpv.hk hk11
  have hpll : g11.IsList pl pv.toArray := listOf ⟨opl, hopl, hppl.lst⟩
  (walk_at "a0"; walk_at "a37"; walk_at "a59"; walk_at "a61"; walk_at "a58"; walk_at "a61"; walk_at "a19"; walk_at "a61")
  refine dcomp (bs := bitsOf size) rm W he (by exact Y) (by rfl) hm3 hpa.isList hbv (fun b hb => bits_lt hb) (bits_len size) (fun D1 v1 g12 h12 tk12 hk12 Y hD1 hv1 => ?_)
  have W := W.mono hk12
  have hpa := PlainHk hpa hk12
  walk_at "a60"
  refine newTuple_g f (by exact Y) (by simp [sizeLine_eq]) (fun T1 g13 h13 hk13 Y hT1 => ?_)
  have W := W.mono hk13
  have hpa := PlainHk hpa hk13
  have hP1 : PairAt g13 (.ref T1) ("w", (bitsOf size).map dn) := ⟨T1, _, D1, v1, rfl, hT1, (PlainHk hD1 hk13).isList, hv1⟩
  (walk_at "a61"; walk_at "a58"; walk_at "a61"; walk_at "a19"; walk_at "a61"; walk_at "a23"; walk_at "a59"; walk_at "a61"; walk_at "a19"; walk_at "a60")
  refine newList_g f (by exact Y) (by simp [sizeLine_eq]) (fun l2 g14 h14 hk14 Y hl2 => ?_)
  have W := W.mono hk14
  have hpa := PlainHk hpa hk14
  skip
  refine absS (h := h14) is0 ⟨_, rfl⟩ (fun tk0 => ?_)
  refine dcomp (bs := bitsOf size) rm W he (by exact Y) (by rfl) hm3 hpa.isList hbv (fun b hb => bits_lt hb) (bits_len size) (fun D2 v2 g15 h15 tk15 hk15 Y hD2 hv2 => ?_)
  have W := W.mono hk15
  skip
  refine absS (h := h15) is0 ⟨_, rfl⟩ (fun tk0 => ?_)
  have hv1l := StrsAre.length hv1
  have hv2l := StrsAre.length hv2
  have hbits := bits_len size
  rw [List.length_map] at hv1l hv2l
  refine add_g f (by exact Y) (Heap.IsList.hk hl2 hk15) hD2.isList (by simp; omega) (fun D3 g16 h16 hk16 Y hD3 => ?_)
  have W := W.mono hk16
  walk_at "a60"
  refine absS (h := h16) is0 ⟨_, rfl⟩ (fun tk0 => ?_)
  refine newTuple_g f (by exact Y) (by simp [sizeLine_eq]) (fun T2 g17 h17 hk17 Y hT2 => ?_)
  have W := W.mono hk17
  have hP2 : PairAt g17 (.ref T2) ("w", "a" :: (bitsOf size).map dn) := ⟨T2, _, D3, _, rfl, hT2, Heap.IsList.hk hD3 hk17, .cons _ _ hv2⟩
  have hP1 := (hP1.hk (hk14.trans hk15)).hk (hk16.trans hk17)
  walk_at "a60"
  refine absS (h := h17) is0 ⟨_, rfl⟩ (fun tk0 => ?_)
  refine newList_g f (by exact Y) (by simp [sizeLine_eq]) (fun fm g18 h18 hk18 Y hfm => ?_)
  have W := W.mono hk18
  have hFP : PairsAre g18 [.ref T1, .ref T2] (formsPP size) := ((PairsAre.one hP1).append (.one hP2)).hk hk18
  have hpll := Heap.IsList.hk hpll (((((hk12.trans hk13).trans (hk14.trans hk15)).trans hk16).trans hk17).trans hk18)
  have hpv := hpv.hk (((((hk12.trans hk13).trans (hk14.trans hk15)).trans hk16).trans hk17).trans hk18)
  (walk_at "a17"; walk_at "a2"; walk_at "a0"; walk_at "a37")
  rename_i h19 Y _
  refine absS (h := h19) is0 ⟨_, rfl⟩ (fun tk0 => ?_)
  refine wpAny_BinOp ?_
  refine ldv (by exact Y) he (by rfl) (by walk_at "hv") ?_
  refine midv is0 (fun v h => ∃ fa fv g', ∃ (fb : Bool), v = .ref fa ∧ Hk g18 g' ∧ Fx [a] g s.heap g' L' h (mset m10 "forms" (.ref fm)) [(d, isDS w kvs), (a, isTape (n + 5))] ∧ g'.IsList fa (List.toArray fv) ∧ PairsAre g' fv (if fb then formsPP size else (formsPP size).reverse)) ?_ ?_
  · (walk_at "a28"; walk_at "a25"; walk_at "a50"; walk_at "a8"; walk_at "a51"; walk_at "a61"; walk_at "a7"; walk_at "a61"; walk_at "a18"; walk_at "a60"; walk_at "a55")
    refine Fx.draw (k := k) (many := 2) (by exact Y.swap) W (rm.less (by omega)) (by decide) (by decide) (by omega) (fun d5 t5 g20 h20 tk20 hd5 hk20 Y => ?_)
    have Y := Y.swap
    have W := W.mono hk20
    (walk_at "a18"; walk_at "a42"; walk_at "a26")
    refine ife (fun h0 => ?_) (fun h0 => ?_)
    · walk_at "a7"
      exact ValAnd.mk ⟨fm, _, g20, true, rfl, hk20, Y, Heap.IsList.hk hfm hk20, hFP.hk hk20⟩
    · (walk_at "a22"; walk_at "a7"; walk_at "a64"; walk_at "a65"; walk_at "a65"; walk_at "a66"; walk_at "a27"; walk_at "a18"; walk_at "a43")
      refine rev_g f (by exact Y) (Heap.IsList.hk hfm hk20) (.int _ _) (by simp) (by rfl) (by intro r; rfl) (fun fa g21 h21 hk21 Y hfa => ?_)
      exact ValAnd.mk ⟨fa, _, g21, false, rfl, hk20.trans hk21, Y, hfa, ((hFP.hk (hk20.trans hk21))).reverse⟩
  rintro v h21 tk21 ⟨fa, fv, g21, fb, rfl, hk21, Y, hfa, hFF⟩
  have W := W.mono hk21
  have hpll := Heap.IsList.hk hpll hk21
  have hpv := hpv.hk hk21
  have hbase := hpv.append hFF
  have hpv1 : pv.length = topOf size + 1 := by rw [hpv.1]; simp [basePP]
  have hfv1 : fv.length = 2 := by rw [hFF.1]; cases fb <;> rfl
  refine add_g f (by exact Y) hpll hfa (by omega) (fun p2 g22 h22 hk22 Y hp2 => ?_)
  have W := W.mono hk22
  have hbase := hbase.hk hk22
  (walk_at "a17"; walk_at "a2"; walk_at "a0"; walk_at "a37")
  rename_i h23 Y _
  with_reducible refine List_ ?_
  with_reducible refine args_cons ?_ (by with_unfolding_all rfl)
  with_reducible refine pair2 f (by exact Y) (fun va ga ha tka hka Y hPa => ?_)
  with_reducible refine args_cons ?_ (by with_unfolding_all rfl)
  with_reducible refine pair2 f (by exact Y) (fun vb gb hb tkb hkb Y hPb => ?_)
  with_reducible refine args_cons ?_ (by with_unfolding_all rfl)
  with_reducible refine pair1 f (by exact Y) (fun vc gc hc tkc hkc Y hPc => ?_)
  with_reducible refine args_cons ?_ (by with_unfolding_all rfl)
  with_reducible refine pair1 f (by exact Y) (fun vd gd hd tkd hkd Y hPd => ?_)
  with_reducible refine args_cons ?_ (by with_unfolding_all rfl)
  with_reducible refine pair2 f (by exact Y) (fun ve ge he' tke hke Y hPe => ?_)
  with_reducible refine args_cons ?_ (by with_unfolding_all rfl)
  with_reducible refine pair1 f (by exact Y) (fun vf gf hf tkf hkf Y hPf => ?_)
  with_reducible refine absS (h := hf) is0 ⟨_, by with_unfolding_all rfl⟩ (fun tk0 => ?_)
  walk_at "a60"
  have hOP : PairsAre gf [va, vb, vc, vd, ve, vf] othersPP :=
    (PairsAre.one (((((hPa.hk hkb).hk hkc).hk hkd).hk hke).hk hkf)).append ((PairsAre.one ((((hPb.hk hkc).hk hkd).hk hke).hk hkf)).append ((PairsAre.one (((hPc.hk hkd).hk hke).hk hkf)).append
      ((PairsAre.one ((hPd.hk hke).hk hkf)).append ((PairsAre.one (hPe.hk hkf)).append (.one hPf)))))
  have hka6 : Hk g22 gf := ((((hka.trans hkb).trans hkc).trans hkd).trans hke).trans hkf
  have W := W.mono hka6
  have hbase := hbase.hk hka6
  have hp2 := Heap.IsList.hk hp2 hka6
  with_reducible refine newList_g f (by exact Y) (by simp [sizeLine_eq]) (fun og gg hg1 hkg Y hog => ?_)
  have W := W.mono hkg
  have hbase := hbase.hk hkg
  have hp2 := Heap.IsList.hk hp2 hkg
  have hOP := hOP.hk hkg
  (walk_at "a17"; walk_at "a2"; walk_at "a0"; walk_at "a37")
  rename_i h24 Y _
  with_reducible refine wpAny_BinOp ?_
  with_reducible refine ldv (by exact Y) he (by with_unfolding_all rfl) (by walk_at "hv") ?_
  with_reducible refine ldv (by exact Y) he (by with_unfolding_all rfl) (by walk_at "hv") ?_
  with_reducible refine add_g f (by exact Y) hp2 hog (by simp; omega) (fun p3 g24 h25 hk24 Y hp3 => ?_)
  have W := W.mono hk24
  have hall3 : PairsAre g24 ((pv ++ fv) ++ [va, vb, vc, vd, ve, vf]) (restPP size fb) := (hbase.append hOP).hk hk24
  have hlen3 : ((pv ++ fv) ++ [va, vb, vc, vd, ve, vf]).length = topOf size + 9 := by simp; omega
  generalize (pv ++ fv) ++ [va, vb, vc, vd, ve, vf] = pv3 at *
  (walk_at "a17"; walk_at "a2"; walk_at "a0")
  rename_i h26 Y _
  obtain ⟨m11, hma, hmb, hmc, hmd, Y⟩ : ∃ m11, m11 "tape" = some (.ref a) ∧ m11 "size" = some (.int size ts) ∧ m11 "lengths" = some (.ref d) ∧ m11 "pairs" = some (.ref p3) ∧ Fx [a] g s.heap g24 L' h26 m11 [(d, isDS w kvs), (a, isTape (n + 5))] :=
    ⟨_, by walk_at "hv", by walk_at "hv", by walk_at "hv", by walk_at "hv", Y⟩
  refine mid' is0 (fun h => ∃ p4 pv4 g' m', ∃ (rb : Bool), Hk g24 g' ∧ Fx [a] g s.heap g' L' h m' [(d, isDS w kvs), (a, isTape (n + 6))] ∧ m' "lengths" = some (.ref d) ∧ m' "pairs" = some (.ref p4) ∧ g'.IsList p4 (List.toArray pv4) ∧ PairsAre g' pv4 (if rb then (restPP size fb).reverse else restPP size fb)) ?_ ?_
  · have up : ∀ {gx h m i}, i ≤ n + 6 → Fx [a] g s.heap gx L' h m [(d, isDS w kvs), (a, isTape i)] → Fx [a] g s.heap gx L' h m [(d, isDS w kvs), (a, isTape (n + 6))] := fun hi Y => (Y.swap.imp0 (isTape.mono hi)).swap
    (walk_at "af"; walk_at "a29"; walk_at "a30"; walk_at "a25"; walk_at "a7"; walk_at "a18"; walk_at "a40"; walk_at "a26")
    refine ifb (fun hlt => ?_) (fun hlt => ?_)
    · (walk_at "a30"; walk_at "a25"; walk_at "a50"; walk_at "a8"; walk_at "a51"; walk_at "a61"; walk_at "a7"; walk_at "a61"; walk_at "a18"; walk_at "a60"; walk_at "a55")
      refine Fx.draw (k := k) (many := 2) (by exact Y.swap) W (rm.less (by omega)) (by decide) (by decide) (by omega) (fun d5 t5 g27 h27 tk27 hd5 hk27 Y => ?_)
      have Y := Y.swap
      have W := W.mono hk27
      (walk_at "a18"; walk_at "a42"; walk_at "a26")
      refine ife (fun h0 => ?_) (fun h0 => ?_)
      · (walk_at "a31"; walk_at "at"; walk_at "a0"; walk_at "a37"; walk_at "a22"; walk_at "a7"; walk_at "a64"; walk_at "a65"; walk_at "a65"; walk_at "a66"; walk_at "a27"; walk_at "a18"; walk_at "a43")
        refine rev_g f (by exact Y) (Heap.IsList.hk hp3 hk27) (.int _ _) (by omega) (by rfl) (by intro r; rfl) (fun p4 g29 h29 hk29 Y hp4 => ?_)
        (walk_at "a17"; walk_at "a2"; walk_at "a1")
        rename_i h30 Y _
        exact NextAnd.mk ⟨p4, _, g29, _, true, hk27.trans hk29, Y, by walk_at "hv", by walk_at "hv", hp4, (hall3.hk (hk27.trans hk29)).reverse⟩
      · (walk_at "an"; walk_at "a1")
        exact NextAnd.mk ⟨p3, _, g27, m11, false, hk27, Y, hmc, hmd, Heap.IsList.hk hp3 hk27, hall3.hk hk27⟩
    · (walk_at "an"; walk_at "a1")
      exact NextAnd.mk ⟨p3, _, g24, m11, false, Hk.refl _, up (by omega) Y, hmc, hmd, hp3, hall3⟩
  rintro h28 tk28 ⟨p4, pv4, g28, m12, rb, hk28, Y, hme, hmf, hp4, hall4⟩
  have W := W.mono hk28
  (walk_at "a0"; walk_at "a36")
  with_reducible refine Tuple_ ?_
  with_reducible refine args_cons ?_ (by with_unfolding_all rfl)
  with_reducible refine wpAny_BinOp ?_
  with_reducible refine List_ ?_
  with_reducible refine args_cons ?_ (by with_unfolding_all rfl)
  with_reducible refine pair2 f (by exact Y) (fun vS g31 h31 tk31 hk31 Y hPS => ?_)
  with_reducible refine args_nil ?_
  with_reducible refine newList_g f (by exact Y) (by simp [sizeLine_eq]) (fun ls g32 h32 hk32 Y hls => ?_)
  with_reducible refine ldv (by exact Y) he (by with_unfolding_all rfl) (by walk_at "hv") ?_
  have hk312 := hk31.trans hk32
  have hlen4 : pv4.length = topOf size + 9 := by
    rw [hall4.1]
    cases rb <;> cases fb <;> simp [restPP, basePP, formsPP, othersPP]
  with_reducible refine add_g f (by exact Y) hls (Heap.IsList.hk hp4 hk312) (by simp; omega) (fun pf g33 h33 hk33 Y hpf => ?_)
  have hkz := hk312.trans hk33
  have hfin : PairsAre g33 ([vS] ++ pv4) (ppOf size fb rb) := ((PairsAre.one (hPS.hk hk32)).append (hall4.hk hk312)).hk hk33
  with_reducible refine args_cons ?_ (by with_unfolding_all rfl)
  with_reducible refine ldv (by exact Y) he (by with_unfolding_all rfl) (by walk_at "hv") ?_
  with_reducible refine args_nil ?_
  with_reducible refine newTuple_g f (by exact Y) (by simp [sizeLine_eq]) (fun TT g34 h34 hk34 Y hTT => ?_)
  have hta : ∃ o, h34.get? a = some o ∧ isTape (n + 10) o := (Y.at (a := a) (P := isTape (n + 6)) (by simp)).imp fun o ho => ⟨ho.1, isTape.mono (by omega) o ho.2⟩
  have hdl := Y.led_ (d, isDS w kvs) (by simp)
  walk_at "a3"
  exact hQ TT pf d g34 h34 _ size fb rb _ kvs Y.toOut hta hTT (Heap.IsList.hk hpf hk34) (hfin.hk hk34) hsz hdn0 hdl.2.2.1 hdl.1 hds hkv (by omega)
end
section
variable {w : World} {A : Around} {E : Value → Shared → Prop} {s : Shared} {mg mb : Str → Option Value} {g : Heap}
theorem law_spec {k : Nat} {l : Addr} {vs : List Value} {xs : List Int} {R : Result → Shared → Prop} (W : Wd w mg mb g) (hg : Hk g s.heap) (rm : Rm A (k + 8))
    (hl : g.IsList l vs.toArray) (hxs : IntsAre vs xs) (hlen : xs.length ≤ 63)
    (hQ : ∀ g' h' tk, Out [] g s.heap g' h' → R (.ok (.ret (.bool true))) { s with heap := h', toks := tk }) :
    codeAny (Md w) A (.call (.ref 243) ⟨[.ref l], []⟩) R s := by
  refine codePC [("script", .ref l)] [("script", .ref l)] [] (fun n => [("due", n + 3), ("grammar", n + 2), ("tape", n + 1)])
    W hg rm (by rfl) (by rfl) (BindsTo.of_eq (by rfl)) (by intro n; rfl) (by intro n; rfl) (by intro n; show (["due", "grammar", "tape"] : List Str).Nodup; decide +kernel) (by rfl) (by rfl) (by rfl) (by rfl) (by rfl) (fun env L' h₁ tk A' is0 he rm Y => ?_)
  walk_at "lit"
  have Y : Fx [] g s.heap g L' h₁ _ [(L' + 3, isCell none), (L' + 2, isCell none), (L' + 1, isCell none)] := Y
  (walk_at "a0"; walk_at "a37"; walk_at "a50"; walk_at "a8"; walk_at "a51"; walk_at "a61"; walk_at "a7"; walk_at "a60"; walk_at "a55")
  refine tape_spec (k := k) W (by walk_at "now") (rm.less (by omega)) hl hxs hlen (fun tp g1 h2 tk1 O htp1 htp2 htp3 => ?_)
  have Y := Fx.adopt (by exact Y) O htp1 htp2 htp3
  have W := W.mono O.old
  skip
  refine stc0 (by exact Y.pick [_, _, _]) he (by rfl) (by rfl) (fun h3 Y => ?_)
  obtain ⟨g2, hk2, hcT, Y⟩ := Y.freezeCell (by simp)
  have W := W.mono hk2
  have Y : Fx [] g s.heap g2 L' h3 _ [(tp, isTape 0), (L' + 3, isCell none), (L' + 2, isCell none)] := Y
  (walk_at "a2"; walk_at "a0"; walk_at "a46"; walk_at "a50"; walk_at "a8"; walk_at "a51"; walk_at "a61")
  refine ldcG (by exact Y) he (by rfl) (by rfl) hcT ?_
  (walk_at "a60"; walk_at "a55")
  refine grammar_pairs_spec (k := k) (n := 0) W (by walk_at "now") (rm.less (by omega)) (Y.at List.mem_cons_self) (Y.led_ _ List.mem_cons_self).2.2.1 (by decide) (fun T pl d g3 h4 tk4 size f r pv kvs O htp4 hT hpl hpv hsz hdn hdg hdd hds hkv hkl => ?_)
  have Y := Fx.adoptT (by exact Y) O htp4 hdn hdg hdd
  have W := W.mono O.old
  have hcT := Heap.IsCell.hk hcT O.old
  skip
  refine assign2 rm (by exact Y) hT (fun h5 Y => ?_)
  (walk_at "a17"; walk_at "a17"; walk_at "a2"; walk_at "a0"; walk_at "a37"; walk_at "a50"; walk_at "a8"; walk_at "a51"; walk_at "a61"; walk_at "a7"; walk_at "a60"; walk_at "a55")
  refine plain_grammar_spec (k := k) W (by walk_at "now") (rm.less (by omega)) ppOf_ok hpl hpv (fun x fs an rn ns rs g4 h6 tk6 O hG => ?_)
  have Y := Fx.out (by assumption) O
  have W := W.mono O.old
  have hcT := Heap.IsCell.hk hcT O.old
  skip
  have Y : Fx [] g s.heap g4 L' h6 _ [(d, isDS w kvs), (tp, isTape 10), (L' + 3, isCell none), (L' + 2, isCell none)] := Y
  refine stc0 (by exact Y.pick [_, _, _]) he (by rfl) (by rfl) (fun h7 Y => ?_)
  obtain ⟨g5, hk5, hcG, Y⟩ := Y.freezeCell (by simp)
  have W := W.mono hk5
  have hcT := Heap.IsCell.hk hcT hk5
  have hG := hG.hk hk5
  have Y : Fx [] g s.heap g5 L' h7 _ [(d, isDS w kvs), (tp, isTape 10), (L' + 3, isCell none)] := Y
  obtain ⟨tw, hvw⟩ := hkv.get (lens_w size)
  (walk_at "a2"; walk_at "a0"; walk_at "a48"; walk_at "a23"; walk_at "a22"; walk_at "a7"; walk_at "a19")
  refine item_dict (knd := SK w) (kvs := kvs) (sk w _ _) (by exact Y.at List.mem_cons_self) hvw ?_ (by with_unfolding_all rfl)
  (walk_at "a18"; walk_at "a38"; walk_at "a7"; walk_at "a19")
  refine dset0 (knd := SK w) (kvs := kvs) (sk w _ _) (by omega) (by exact Y) (fun h8 Y => ?_)
  obtain ⟨kvs1, hkv1, hkl1, Y⟩ : ∃ kvs1, LensAre kvs1 (setF (lensOf size) "s" (size + 1)) ∧ kvs1.length ≤ kvs.length + 1 ∧ Fx [] g s.heap g5 L' h8 _ [(d, isDS w kvs1), (tp, isTape 10), (L' + 3, isCell none)] := ⟨_, hkv.set "s" (size + 1) _, stored_length_le _ _ _, Y⟩
  obtain ⟨ts, hvs⟩ := hkv1.get (k := "s") (n := size + 1) (by unfold setF; rw [if_pos rfl])
  (walk_at "a2"; walk_at "a0"; walk_at "a48"; walk_at "a23"; walk_at "a22"; walk_at "a7"; walk_at "a19")
  refine item_dict (knd := SK w) (kvs := kvs1) (sk w _ _) (by exact Y.at List.mem_cons_self) hvs ?_ (by with_unfolding_all rfl)
  (walk_at "a18"; walk_at "a38"; walk_at "a7"; walk_at "a19")
  refine dset0 (knd := SK w) (kvs := kvs1) (sk w _ _) (by omega) (by exact Y) (fun h9 Y => ?_)
  obtain ⟨kvs2, hkv2, hkl2, Y⟩ : ∃ kvs2, LensAre kvs2 (lens2 size) ∧ kvs2.length ≤ kvs1.length + 1 ∧ Fx [] g s.heap g5 L' h9 _ [(d, isDS w kvs2), (tp, isTape 10), (L' + 3, isCell none)] := ⟨_, hkv1.set "$accept" (size + 2) _, stored_length_le _ _ _, Y⟩
  have S := sol_all (f := f) (r := r) hsz
  have e4 : (termsOf (ppOf size f r)).length = 4 := by rw [terms_eq]; rfl
  rw [e4] at hG
  have hnl := names_len (size := size) (f := f) (r := r)
  have hwf : ∀ p ∈ rulesOf (ppOf size f r), p.1 < (namesOf (ppOf size f r)).length ∧ p.2.length ≤ 1000 ∧ ∀ j ∈ p.2, j < (namesOf (ppOf size f r)).length := fun p hp => ⟨(S.wf p hp).2.1, (rules_ok ppOf_ok p hp).2, (S.wf p hp).2.2⟩
  obtain ⟨N, hN⟩ := ends (rules := rulesOf (ppOf size f r)) (initL (namesOf (ppOf size f r)).length 4, [])
  have hsm : ∀ i, changes (rulesOf (ppOf size f r)) (passes (rulesOf (ppOf size f r)) (initL (namesOf (ppOf size f r)).length 4, []) i) = false → ∀ j, Wsm (wfold (rulesOf (ppOf size f r)) (passes (rulesOf (ppOf size f r)) (initL (namesOf (ppOf size f r)).length 4, []) i).1 ((passes (rulesOf (ppOf size f r)) (initL (namesOf (ppOf size f r)).length 4, []) i).2.take j) (initW (namesOf (ppOf size f r)).length 4)) := fun i hi => (words_fix S i hi).1
  have hwd : ∀ i, changes (rulesOf (ppOf size f r)) (passes (rulesOf (ppOf size f r)) (initL (namesOf (ppOf size f r)).length 4, []) i) = false → ∀ k, k < (namesOf (ppOf size f r)).length → (wfold (rulesOf (ppOf size f r)) (passes (rulesOf (ppOf size f r)) (initL (namesOf (ppOf size f r)).length 4, []) i).1 (passes (rulesOf (ppOf size f r)) (initL (namesOf (ppOf size f r)).length 4, []) i).2 (initW (namesOf (ppOf size f r)).length 4)).getD k none = dueN size (nm size f r k) := fun i hi k hk => (words_fix S i hi).2 k hk
  (walk_at "a2"; walk_at "a0")
  refine Assign_Tuple_swapped ?_ (by with_unfolding_all rfl) (sw_two he (by rfl) (by rfl) (by rfl) (by decide +kernel) (by unfold Env.blockKind; rw [he.scope]; rfl) (by rfl) (by rfl) (by rfl))
  (walk_at "a58"; walk_at "a61"; walk_at "a50"; walk_at "a8"; walk_at "a51"; walk_at "a61")
  refine ldcG (by exact Y) he (by rfl) (by rfl) hcG ?_
  (walk_at "a60"; walk_at "a55")
  refine least_words_spec (k := k + 4) (rm.less (by omega)) W (by walk_at "now") hG hwf N hN hsm (fun v h10 tk10 g6 wa wv iL O hv hwa hch hwv => ?_)
  subst hv
  have hW := hwd iL hch
  have hWl : (wfold (rulesOf (ppOf size f r)) (passes (rulesOf (ppOf size f r)) (initL (namesOf (ppOf size f r)).length 4, []) iL).1 (passes (rulesOf (ppOf size f r)) (initL (namesOf (ppOf size f r)).length 4, []) iL).2 (initW (namesOf (ppOf size f r)).length 4)).length = (namesOf (ppOf size f r)).length := by rw [wfold_len, initW_len]
  generalize wfold (rulesOf (ppOf size f r)) (passes (rulesOf (ppOf size f r)) (initL (namesOf (ppOf size f r)).length 4, []) iL).1 (passes (rulesOf (ppOf size f r)) (initL (namesOf (ppOf size f r)).length 4, []) iL).2 (initW (namesOf (ppOf size f r)).length 4) = WW at hwv hW hWl
  have Y := Fx.out (by exact Y) O
  have W := W.mono O.old
  have hcT := Heap.IsCell.hk hcT O.old
  have hcG := Heap.IsCell.hk hcG O.old
  have hG := hG.hk O.old
  (walk_at "a61"; walk_at "a49")
  refine ldcG (by exact Y) he (by rfl) (by rfl) hcG ?_
  have o1 := hG.obj; have o2 := hG.n3
  skip
  (walk_at "meth1"; walk_at "a51"; walk_at "a61"; walk_at "a19"; walk_at "a60"; walk_at "a55")
  refine number_spec (k := k + 4) (rm.less (by omega)) W (by walk_at "now") hG (fun ta h11 tk11 hk11 => ?_)
  have Y := Y.keeps hk11
  have hsign : numOf (namesOf (ppOf size f r)) "a" = (3 : Nat) := by
    have c3 := (nm_c (size := size) (f := f) (r := r)).2.2.2.1
    have hm : ("a" : Str) ∈ namesOf (ppOf size f r) := by rw [← c3]; exact nm_mem (by rw [names_eq]; simp)
    unfold numOf
    rw [if_pos hm]
    congr 1
    rw [← c3]; exact idx_nm (by rw [names_eq]; simp)
  rw [hsign]
  walk_at "a60"
  refine newTuple_g FrOk.nil (by exact Y) (by simp [sizeLine_eq]) (fun T2 g7 h12 hk12 Y hT2 => ?_)
  have W := W.mono hk12
  have hcT := Heap.IsCell.hk hcT hk12
  have hcG := Heap.IsCell.hk hcG hk12
  have hG := hG.hk hk12
  have hwa := Heap.IsList.hk hwa hk12
  have hwv := hwv.hk hk12
  refine unpack_swapped rm he (by rfl) (by rfl) (by exact Y) hT2 (fun h13 tk13 Y => ?_)
  (walk_at "a2"; walk_at "a0"; walk_at "a37")
  refine newDict_l (SK w) (by assumption) W (fun du h14 hdun hdus Y => ?_)
  skip
  have Y : Fx [] g s.heap g7 L' h14 _ [(du, isDS w []), (d, isDS w kvs2), (tp, isTape 10), (L' + 3, isCell none)] := Y
  refine stc0 (by exact Y.pick [_, _, _]) he (by rfl) (by rfl) (fun h15 Y => ?_)
  obtain ⟨g8, hk8, hcD, Y⟩ := Y.freezeCell (by simp)
  have Y : Fx [] g s.heap g8 L' h15 _ [(du, isDS w []), (d, isDS w kvs2), (tp, isTape 10)] := Y
  obtain ⟨g9, hk9, hdd, Y⟩ := (Y.pick [_]).freeze (by simp)
  have Y : Fx [] g s.heap g9 L' h15 _ [(du, isDS w []), (tp, isTape 10)] := Y
  have hk89 := hk8.trans hk9
  have W := W.mono hk89
  have hcT := Heap.IsCell.hk hcT hk89
  have hcG := Heap.IsCell.hk hcG hk89
  have hcD := Heap.IsCell.hk hcD hk9
  have hG := hG.hk hk89
  have hwa := Heap.IsList.hk hwa hk89
  have hwv := hwv.hk hk89
  have o1 := hG.obj; have o2 := hG.hnames
  (walk_at "a2"; walk_at "a0"; walk_at "a62"; walk_at "a50"; walk_at "a15"; walk_at "a53"; walk_at "a61"; walk_at "a56")
  refine ldcG (by exact Y) he (by rfl) (by rfl) hcG ?_
  skip
  (walk_at "attr1"; walk_at "a60")
  refine enum_new (by exact Y) hG.nat.isList (fun en it h16 hen hit Y => ?_)
  skip
  have hkl2' : kvs2.length ≤ 400 := by omega
  refine for_enum (fun i g' m led => ∃ kd, led = [(du, isDS w kd), (tp, isTape 10)] ∧ kd.length ≤ 3 * i ∧ (∀ x ∈ (namesOf (ppOf size f r)).take i, ∃ v, valueAt kd x = some v ∧ WordV g' v (dueN size x)) ∧ m "found" = some (.ref wa) ∧ m "sign" = some (.int 3 ta) ∧ m "lengths" = some (.ref d)) rm he (by rfl) (by rfl) (by exact Y) hG.nat.isList (by simp) (by simp)
    ⟨[], rfl, by simp, by simp, by walk_at "hv", by walk_at "hv", by walk_at "hv"⟩ ?_ ?_ (by intro f s' q; exact q)
  · rintro i t v g' m' led' h tk E' hv hk' ⟨kd, rfl, hkdl, hdue, hm1, hm2, hm3⟩ Y
    obtain ⟨hi, tn, rfl⟩ := StrsAre.at hG.sts hv
    have hxn : (namesOf (ppOf size f r))[i] = nm size f r i := by unfold nm; simp [List.getD, hi]
    have hlow : i < 3 → _ := fun h => due_low (size := size) (f := f) (r := r) (i := i) h
    have hhigh : 3 ≤ i → _ := fun h => due_high (size := size) (f := f) (r := r) h hi
    have hWi := hW i hi
    rw [hxn] at Y
    have htk : (namesOf (ppOf size f r)).take (i + 1) = (namesOf (ppOf size f r)).take i ++ [nm size f r i] := by rw [List.take_succ_eq_append_getElem hi, hxn]
    generalize nm size f r i = x at *
    have W := W.mono hk'
    have hcD := Heap.IsCell.hk hcD hk'
    have hwa := Heap.IsList.hk hwa hk'
    have hwv := hwv.hk hk'
    obtain ⟨od, hod, hpd⟩ := hdd
    have hod := hk' _ _ hod
    refine absS (h := h) is0 ⟨_, by with_unfolding_all rfl⟩ (fun tk0 => ?_)
    have hz : ∀ dv tdv, dv = Value.int (-1) tdv → ∃ z tz, (valueAt kvs2 x).getD dv = .int z tz ∧ ((∃ n : Nat, lens2 size x = some n ∧ z = n) ∨ (lens2 size x = none ∧ z = -1)) := by
      rintro dv tdv rfl
      cases hl2 : lens2 size x with
      | none => exact ⟨-1, tdv, by rw [hkv2.none hl2]; rfl, .inr ⟨rfl, rfl⟩⟩
      | some n => obtain ⟨tz, e⟩ := hkv2.get hl2; exact ⟨n, tz, by rw [e]; rfl, .inl ⟨n, rfl, rfl⟩⟩
    (walk_at "a0"; walk_at "a37"; walk_at "a49"; walk_at "a7")
    refine meth_dict (knd := SK w) (kvs := kvs2) (by exact ⟨od, Y.now _ _ hod, hpd⟩) PySem.F.slot_dict_get PySem.F.type_dict_get ?_
    (walk_at "a54"; walk_at "a61"; walk_at "a7"; walk_at "a61"; walk_at "a27"; walk_at "a18"; walk_at "a43"; walk_at "a60")
    refine dget (knd := SK w) (kvs := kvs2) (k := x) (sk w _ _) hds (by exact ⟨od, Y.now _ _ hod, hpd⟩) ?_
    obtain ⟨z, tz, hze, hzc⟩ := hz _ _ rfl
    rw [hze]
    (walk_at "a17"; walk_at "a2"; walk_at "a0")
    rename_i h17 Y _
    obtain ⟨M, hMa, hMn, hMs, hM1, hM2, hM3, Y⟩ : ∃ M : Str → Option Value, M "at" = some (.int (i : Nat) t) ∧ M "name" = some (.str x tn) ∧ M "size" = some (.int z tz) ∧ M "found" = some (.ref wa) ∧ M "sign" = some (.int 3 ta) ∧ M "lengths" = some (.ref d) ∧ Fx [] g s.heap g' L' h17 M [(en, isEn it ((i + 1 : Nat) : Int)), (it, isLi an (i + 1)), (du, isDS w kd), (tp, isTape 10)] :=
      ⟨_, by walk_at "hv", by walk_at "hv", by walk_at "hv", by walk_at "hv", by walk_at "hv", by walk_at "hv", Y⟩
    refine mid' is0 (fun h => ∃ g1 kd1 v1, Hk g' g1 ∧ Fx [] g s.heap g1 L' h M [(en, isEn it ((i + 1 : Nat) : Int)), (it, isLi an (i + 1)), (du, isDS w kd1), (tp, isTape 10)] ∧ (∀ y, valueAt kd1 y = if y = x then some v1 else valueAt kd y) ∧ kd1.length ≤ kd.length + 1 ∧ WordV g1 v1 (due1 size x)) ?_ ?_
    · (walk_at "a48"; walk_at "a28")
      refine isTrue_chain ?_ (by with_unfolding_all rfl)
      walk_at "a18"
      refine test_link ?_
      (walk_at "a7"; walk_at "a41"; walk_at "a26")
      refine ifb (fun hz0 => ?_) (fun hz0 => ?_)
      · refine test_last ?_
        (walk_at "a18"; walk_at "a41"; walk_at "a26")
        refine ifb (fun hz1 => ?_) (fun hz1 => ?_)
        · obtain ⟨n, hl2, hzn⟩ : ∃ n : Nat, lens2 size x = some n ∧ z = n := by
            rcases hzc with h | ⟨_, h⟩
            · exact h
            · omega
          (walk_at "a23"; walk_at "a58"; walk_at "a61"; walk_at "a7"; walk_at "a60")
          refine newTuple_g FrOk.nil (by exact Y) (by simp [sizeLine_eq]) (fun t1 g1 h18 hk1 Y ht1 => ?_)
          walk_at "a7"
          rw [hzn]
          refine mul_tup (n := n) FrOk.nil (by exact Y) ht1 (by omega) (fun t2 g2 h19 hk2 Y ht2 => ?_)
          skip
          refine ldcG (by exact Y) he (by rfl) (by rfl) (Heap.IsCell.hk hcD (hk1.trans hk2)) ?_
          walk_at "a7"
          refine dset0 (knd := SK w) (kvs := kd) (k := x) (sk w _ _) (by omega) (by exact Y.pick [_, _]) (fun h20 Y => ?_)
          exact NextAnd.mk ⟨g2, _, _, hk1.trans hk2, Y.unpick [_, _], fun y => valueAt_stored _ _ _ _, stored_length_le _ _ _, by rw [due1_len hl2 (by omega)]; exact ⟨t2, _, rfl, ht2, ints_rep⟩⟩
        · have hd1 : due1 size x = none := by
            rcases hzc with ⟨n, h, e⟩ | ⟨h, _⟩
            · exact due1_long h (by omega)
            · exact due1_none h
          walk_at "a20"
          refine ldcG (by exact Y) he (by rfl) (by rfl) hcD ?_
          walk_at "a7"
          refine dset0 (knd := SK w) (kvs := kd) (k := x) (sk w _ _) (by omega) (by exact Y.pick [_, _]) (fun h20 Y => ?_)
          exact NextAnd.mk ⟨g', _, _, Hk.refl _, Y.unpick [_, _], fun y => valueAt_stored _ _ _ _, stored_length_le _ _ _, by rw [hd1]; rfl⟩
      · have hd1 : due1 size x = none := by
          rcases hzc with ⟨n, h, e⟩ | ⟨h, _⟩
          · omega
          · exact due1_none h
        (walk_at "an"; walk_at "a20")
        refine ldcG (by exact Y) he (by rfl) (by rfl) hcD ?_
        walk_at "a7"
        refine dset0 (knd := SK w) (kvs := kd) (k := x) (sk w _ _) (by omega) (by exact Y.pick [_, _]) (fun h20 Y => ?_)
        exact NextAnd.mk ⟨g', _, _, Hk.refl _, Y.unpick [_, _], fun y => valueAt_stored _ _ _ _, stored_length_le _ _ _, by rw [hd1]; rfl⟩
    rintro h18 tk18 ⟨g1, kd1, v1, hk1, Y, hva1, hkl1, hw1⟩
    have hcD := Heap.IsCell.hk hcD hk1
    refine execs_cons' ?_
    refine mid' is0 (fun h => ∃ g2 kd2 v2, Hk g1 g2 ∧ Fx [] g s.heap g2 L' h M [(en, isEn it ((i + 1 : Nat) : Int)), (it, isLi an (i + 1)), (du, isDS w kd2), (tp, isTape 10)] ∧ (∀ y, valueAt kd2 y = if y = x then some v2 else valueAt kd y) ∧ kd2.length ≤ kd.length + 2 ∧ WordV g2 v2 (due2 size x)) ?_ ?_
    · (walk_at "af"; walk_at "a29"; walk_at "a30"; walk_at "a25"; walk_at "a7"; walk_at "a19"; walk_at "a67"; walk_at "a26")
      refine ife (fun hx => ?_) (fun hx => ?_)
      · have hzn : z = ((size + 2 : Nat) : Int) := by
          rw [hx, lens2_accept] at hzc
          rcases hzc with ⟨n, h, e⟩ | ⟨h, _⟩
          · rw [e, ← Option.some.inj h]
          · cases h
        (walk_at "a30"; walk_at "a25"; walk_at "a22")
        refine ldcG (by exact Y) he (by rfl) (by rfl) hcD ?_
        walk_at "a7"
        refine item_dict (knd := SK w) (kvs := kd1) (sk w _ _) (by exact Y.at (a := du) (P := isDS w kd1) (by simp)) (by rw [hva1, if_pos rfl]) ?_ (by with_unfolding_all rfl)
        walk_at "a20"
        cases hd1 : due1 size x with
        | none =>
          rw [hd1] at hw1
          cases hw1
          refine is_not_none_none ?_
          (walk_at "a26"; walk_at "an"; walk_at "an"; walk_at "a1")
          exact NextAnd.mk ⟨g1, kd1, _, Hk.refl _, Y, hva1, by omega, by rw [due2_none hd1]; rfl⟩
        | some ks =>
          rw [hd1] at hw1
          obtain ⟨a1, us, rfl, _, _⟩ := hw1
          obtain ⟨hsz2, hd2⟩ := due2_accept (ks := ks) (by rw [← hx]; exact hd1)
          refine is_not_none_ref ?_
          (walk_at "a26"; walk_at "at"; walk_at "a31"; walk_at "at"; walk_at "a0"; walk_at "a48"; walk_at "a23"; walk_at "a23"; walk_at "a58"; walk_at "a61"; walk_at "a7"; walk_at "a60")
          refine newTuple_g FrOk.nil (by exact Y) (by simp [sizeLine_eq]) (fun t1 g2 h19 hk2 Y ht1 => ?_)
          (walk_at "a23"; walk_at "a7"; walk_at "a18"; walk_at "a39")
          rw [show (z - 1) = ((size + 1 : Nat) : Int) from by omega]
          refine mul_tup (n := size + 1) FrOk.nil (by exact Y) ht1 (by omega) (fun t2 g3 h20 hk3 Y ht2 => ?_)
          (walk_at "a58"; walk_at "a61"; walk_at "a18"; walk_at "a60")
          refine newTuple_g FrOk.nil (by exact Y) (by simp [sizeLine_eq]) (fun t3 g4 h21 hk4 Y ht3 => ?_)
          refine add_tup FrOk.nil (by exact Y) (Heap.IsTuple.hk ht2 hk4) ht3 (by rw [sizeLine_eq]; simp; omega) (fun t4 g5 h22 hk5 Y ht4 => ?_)
          skip
          refine ldcG (by exact Y) he (by rfl) (by rfl) (Heap.IsCell.hk hcD (hk2.trans (hk3.trans (hk4.trans hk5)))) ?_
          walk_at "a7"
          refine dset0 (knd := SK w) (kvs := kd1) (k := x) (sk w _ _) (by omega) (by exact Y.pick [_, _]) (fun h20 Y => ?_)
          (walk_at "a2"; walk_at "a1")
          refine NextAnd.mk ⟨g5, _, _, hk2.trans (hk3.trans (hk4.trans hk5)), Y.unpick [_, _], val_again hva1, Nat.le_trans (stored_length_le _ _ _) (by omega), ?_⟩
          rw [hx, hd2]
          refine ⟨t4, _, rfl, ht4, ?_⟩
          rw [nats_append]
          exact ints_rep.append (.cons _ _ .nil)
      · (walk_at "an"; walk_at "a1")
        exact NextAnd.mk ⟨g1, kd1, v1, Hk.refl _, Y, hva1, by omega, by rw [due2_other hx]; exact hw1⟩
    rintro h19 tk19 ⟨g2, kd2, v2, hk2, Y, hva2, hkl2b, hw2⟩
    have hcD := Heap.IsCell.hk hcD hk2
    refine execs_cons' ?_
    refine mid' is0 (fun h => ∃ g3 kd3 v3, Hk g2 g3 ∧ Fx [] g s.heap g3 L' h M [(en, isEn it ((i + 1 : Nat) : Int)), (it, isLi an (i + 1)), (du, isDS w kd3), (tp, isTape 10)] ∧ (∀ y, valueAt kd3 y = if y = x then some v3 else valueAt kd y) ∧ kd3.length ≤ kd.length + 3 ∧ WordV g3 v3 (dueN size x)) ?_ ?_
    · (walk_at "af"; walk_at "a25"; walk_at "a7"; walk_at "a18"; walk_at "a40"; walk_at "a26")
      refine ifb (fun h3 => ?_) (fun h3 => ?_)
      · have hlow := hlow (by omega)
        (walk_at "a0"; walk_at "a48"; walk_at "a28"; walk_at "a25"; walk_at "a7"; walk_at "a19"; walk_at "a67"; walk_at "a26")
        refine ife (fun hx => ?_) (fun hx => ?_)
        · walk_at "a20"
          refine ldcG (by exact Y) he (by rfl) (by rfl) hcD ?_
          walk_at "a7"
          refine dset0 (knd := SK w) (kvs := kd2) (k := x) (sk w _ _) (by omega) (by exact Y.pick [_, _]) (fun h20 Y => ?_)
          (walk_at "a2"; walk_at "a1")
          exact NextAnd.mk ⟨g2, _, _, Hk.refl _, Y.unpick [_, _], val_again hva2, Nat.le_trans (stored_length_le _ _ _) (by omega), by rw [hlow, if_pos hx]; rfl⟩
        · (walk_at "a58"; walk_at "a61"; walk_at "a7"; walk_at "a60")
          refine newTuple_g FrOk.nil (by exact Y) (by simp [sizeLine_eq]) (fun t1 g3 h20 hk3 Y ht1 => ?_)
          skip
          refine ldcG (by exact Y) he (by rfl) (by rfl) (Heap.IsCell.hk hcD hk3) ?_
          walk_at "a7"
          refine dset0 (knd := SK w) (kvs := kd2) (k := x) (sk w _ _) (by omega) (by exact Y.pick [_, _]) (fun h20 Y => ?_)
          (walk_at "a2"; walk_at "a1")
          exact NextAnd.mk ⟨g3, _, _, hk3, Y.unpick [_, _], val_again hva2, Nat.le_trans (stored_length_le _ _ _) (by omega), by rw [hlow, if_neg hx]; exact ⟨t1, _, rfl, ht1, .cons _ _ .nil⟩⟩
      · walk_at "a1"
        exact NextAnd.mk ⟨g2, kd2, v2, Hk.refl _, Y, hva2, by omega, by rw [hhigh (by omega)]; exact hw2⟩
    rintro h20 tk20 ⟨g3, kd3, v3, hk3, Y, hva3, hkl3, hw3⟩
    have hcD := Heap.IsCell.hk hcD hk3
    have hk13 := hk1.trans (hk2.trans hk3)
    obtain ⟨vf, hvf, hwf1⟩ := hwv.get (k := i) (by rw [hWl]; exact hi)
    rw [hWi] at hwf1
    (walk_at "a0"; walk_at "af"; walk_at "a25"; walk_at "a22"; walk_at "a7"; walk_at "a7")
    refine item_l (by omega) (by omega) (by rw [Int.toNat_natCast]; exact hvf) (by exact Heap.IsList.hk hwa (hk13.trans Y.now)) (by with_unfolding_all rfl) ?_
    walk_at "a22"
    refine ldcG (by exact Y) he (by rfl) (by rfl) hcD ?_
    walk_at "a7"
    refine item_dict (knd := SK w) (kvs := kd3) (sk w _ _) (by exact Y.at (a := du) (P := isDS w kd3) (by simp)) (by rw [hva3, if_pos rfl]) ?_ (by with_unfolding_all rfl)
    refine ne_words (o := dueN size x) (hwf1.hk (hk13.trans Y.now)) (hw3.hk Y.now) rm.units ?_
    (walk_at "a26"; walk_at "an"; walk_at "a1"; walk_at "a2"; walk_at "a1"; walk_at "a4")
    refine TurnEnd.mk (by exact Y) hk13 ⟨_, rfl, kd3, rfl, by omega, ?_, hM1, hM2, hM3⟩
    intro y hy
    rw [hva3]
    by_cases q : y = x
    · rw [if_pos q, q]; exact ⟨v3, rfl, hw3⟩
    · rw [if_neg q]
      rw [htk] at hy
      rcases List.mem_append.mp hy with hy | hy
      · obtain ⟨v, h1, h2⟩ := hdue y hy
        exact ⟨v, h1, h2.hk hk13⟩
      · exact absurd (List.mem_singleton.mp hy) q
  rintro g' m' led' h17 tk17 hk17 ⟨kd, rfl, hkdl, hdue, hm1, hm2, hm3⟩ Y
  have hnsl := StrsAre.length hG.sts
  rw [hnsl, List.take_length] at hdue
  obtain ⟨g18, hk18, ⟨odu, hodu, hpdu⟩, Y⟩ := Y.freeze (by simp)
  have hk1718 := hk17.trans hk18
  have W := W.mono hk1718
  have hcT := Heap.IsCell.hk hcT hk1718
  have hcG := Heap.IsCell.hk hcG hk1718
  have hcD := Heap.IsCell.hk hcD hk1718
  have hG := hG.hk hk1718
  have hdue : ∀ x ∈ namesOf (ppOf size f r), ∃ v, valueAt kd x = some v ∧ WordV g18 v (dueN size x) := fun x hx => by
    obtain ⟨v, h1, h2⟩ := hdue x hx; exact ⟨v, h1, h2.hk hk18⟩
  have hnpos : 0 < (namesOf (ppOf size f r)).length := by rw [names_eq]; simp
  (walk_at "a2"; walk_at "a0"; walk_at "a62"; walk_at "a50"; walk_at "a11"; walk_at "a53"; walk_at "a61"; walk_at "a18"; walk_at "a60")
  refine range_g FrOk.nil (by exact Y) (fun ra g19 h18 tk18 ta' tb tc hk19 Y hr => ?_)
  have W := W.mono hk19
  refine for_range (n := 4) (fun i g' m led => led = [(tp, isTape (10 + 4 * i))]) rm he (by rfl) (by exact Y) (Y.now _ _ hr) (by decide) FrOk.nil rfl ?_ ?_ (by intro f s' q; exact q)
  · rintro i g20 m20 led20 h20 tk20 it2 I2 E2 t2 hi hk20 rfl Y
    have hk1920 := hk19.trans hk20
    have W := W.mono hk20
    have hcT := Heap.IsCell.hk hcT hk1920
    have hcG := Heap.IsCell.hk hcG hk1920
    have hcD := Heap.IsCell.hk hcD hk1920
    have hG := hG.hk hk1920
    have hodu := hk1920 _ _ hodu
    have hdue : ∀ x ∈ namesOf (ppOf size f r), ∃ v, valueAt kd x = some v ∧ WordV g20 v (dueN size x) := fun x hx => by
      obtain ⟨v, h1, h2⟩ := hdue x hx; exact ⟨v, h1, h2.hk hk1920⟩
    refine absS (h := h20) is0 ⟨_, by with_unfolding_all rfl⟩ (fun tk0 => ?_)
    walk_at "a0"
    refine Assign_ListComp_ (cl' := [("tape", L' + 1), ("grammar", L' + 2)]) (swaps_true he (by rfl) (by unfold Env.blockKind; rw [he.scope]; rfl) (by rfl) (by decide +kernel)) (closureFor_cells he.cells (by rfl) (by rfl)) (by rfl) (by rfl) ?_ (by intro _; with_unfolding_all rfl)
    (walk_at "a50"; walk_at "a11"; walk_at "a53"; walk_at "a61"; walk_at "a50"; walk_at "a8"; walk_at "a51"; walk_at "a61")
    refine ldcG (by exact Y) he (by rfl) (by rfl) hcT ?_
    (walk_at "a61"; walk_at "a18"; walk_at "a60"; walk_at "a55")
    have Y := Y.swap
    refine Fx.draw (k := k) (many := 4) (by exact Y) W (rm.less (by omega)) (by decide) (by decide) (by omega) (fun dn td g21 h21 tk21 hdn hk21 Y => ?_)
    have W := W.mono hk21
    walk_at "a60"
    refine range_g FrOk.nil (by exact Y) (fun rb g22 h22 tk22 te tf tg hk22 Y hrb => ?_)
    have W := W.mono hk22
    have hk2022 := hk21.trans hk22
    have hcT := Heap.IsCell.hk hcT hk2022
    have hcG := Heap.IsCell.hk hcG hk2022
    have hcD := Heap.IsCell.hk hcD hk2022
    have hG := hG.hk hk2022
    have hodu := hk2022 _ _ hodu
    have hdue : ∀ x ∈ namesOf (ppOf size f r), ∃ v, valueAt kd x = some v ∧ WordV g22 v (dueN size x) := fun x hx => by
      obtain ⟨v, h1, h2⟩ := hdue x hx; exact ⟨v, h1, h2.hk hk2022⟩
    refine comp_range_T (PT := fun j => isTape (10 + 4 * i + 1 + j)) (ppos := default) rm he FrOk.nil (by exact Y) hrb (fun j g' ys => ys.length = j ∧ j ≤ 4 ∧ ∃ xs : List Str, StrsAre ys xs ∧ ∀ x ∈ xs, x ∈ namesOf (ppOf size f r)) ⟨rfl, by omega, [], .nil, by simp⟩ (by omega) (fun i g ys hJ => by omega) (by rfl) (by rfl) (by rfl) (by rfl) ?_ ?_
    · rintro j g3 ys C D I3 h3 tk3 mc it3 cenv E3 t3 hce hj hk3 ⟨hyl, hj4, xs, hys, hxs⟩ Z
      have W := W.mono hk3
      have hcT := Heap.IsCell.hk hcT hk3
      have hcG := Heap.IsCell.hk hcG hk3
      have hG := hG.hk hk3
      have o1 := hG.obj; have o2 := hG.hnames
      refine testsOf_nil ?_
      refine ift ?_
      (walk_at "a22"; walk_at "a56")
      refine ldcG (by exact Z) hce (by rfl) (by rfl) hcG ?_
      skip
      (walk_at "attr1"; walk_at "a50"; walk_at "a8"; walk_at "a51"; walk_at "a61")
      refine ldcG (by exact Z) hce (by rfl) (by rfl) hcT ?_
      (walk_at "a61"; walk_at "a50"; walk_at "a9"; walk_at "a54"; walk_at "a61"; walk_at "a56")
      refine ldcG (by exact Z) hce (by rfl) (by rfl) hcG ?_
      skip
      (walk_at "attr1"; walk_at "a60")
      refine len_list (by exact (PlainHk hG.nat Z.now).isList) (by omega) (fun tl tkl => ?_)
      (walk_at "a60"; walk_at "a55")
      refine Fx.draw (k := k) (many := ns.length) (by exact Z.pick [_, _]) W (rm.less (by omega)) (by omega) (by omega) (by omega) (fun dx tdx g23 h23 tk23 hdx hk23 Z => ?_)
      have Z := Z.unpick [_, _]
      have W := W.mono hk23
      have hdx' : dx < (namesOf (ppOf size f r)).length := by omega
      obtain ⟨tn2, hnd⟩ := StrsAre.get hG.sts hdx'
      skip
      refine item_l (by omega) (by omega) (by rw [Int.toNat_natCast]; exact hnd) (by exact (PlainHk hG.nat (hk23.trans Z.now)).isList) (by with_unfolding_all rfl) ?_
      exact EltEnd.mk Z hk23 ⟨by simp [hyl], by omega, xs ++ [_], strs_append hys (.cons _ _ .nil), fun x hx => by
        rcases List.mem_append.mp hx with hx | hx
        · exact hxs x hx
        · rw [List.mem_singleton.mp hx]; exact List.getElem_mem _⟩
    rintro D g23 g24 ys h24 tk24 hk23 hk24 ⟨hyl, _, xs, hys, hxs⟩ hD Y
    have hys1 := StrsAre.length hys
    have Y := Y.imp0 (P' := isTape (10 + 4 * (i + 1))) (isTape.mono (by omega))
    have hk2224 := hk23.trans hk24
    have W := W.mono hk2224
    have hcG := Heap.IsCell.hk hcG hk2224
    have hcD := Heap.IsCell.hk hcD hk2224
    have hG := hG.hk hk2224
    have hodu := hk2224 _ _ hodu
    have hdue : ∀ x ∈ namesOf (ppOf size f r), ∃ v, valueAt kd x = some v ∧ WordV g24 v (dueN size x) := fun x hx => by
      obtain ⟨v, h1, h2⟩ := hdue x hx; exact ⟨v, h1, h2.hk hk2224⟩
    obtain ⟨M, hMs, Y⟩ : ∃ M : Str → Option Value, M "some" = some (.ref D) ∧ Fx [] g s.heap g24 L' h24 M [(tp, isTape (10 + 4 * (i + 1))), (I2, it2)] := ⟨_, by walk_at "hv", Y⟩
    (walk_at "a2"; walk_at "a0"; walk_at "a37")
    refine midv is0 (fun v h => ∃ g', Hk g24 g' ∧ Fx [] g s.heap g' L' h M [(tp, isTape (10 + 4 * (i + 1))), (I2, it2)] ∧ WordV g' v (row0 size xs)) ?_ ?_
    · (walk_at "a28"; walk_at "a25"; walk_at "a20")
      refine ListComp_ (cl' := [("due", L' + 3)]) (closureFor_cells he.cells (by rfl) (by rfl)) (by rfl) (by rfl) ?_ (by intro _; with_unfolding_all rfl)
      walk_at "a7"
      refine comp_list rm he (by exact Y) hD.isList (fun j g' zs => zs.length = j ∧ j ≤ 4 ∧ WordsV g' zs ((xs.take j).map (dueN size))) ⟨rfl, by omega, rfl, fun i h => nomatch h⟩ (by omega) (fun i g ys hJ => by omega) (by rfl) (by rfl) (by rfl) ?_ ?_
      · rintro j v g3 zs C D2 I3 h3 tk3 mc it3 cenv E3 hce hv hk3 ⟨hzl, hj4, hzs⟩ Z
        obtain ⟨hj, tx, rfl⟩ := StrsAre.at hys hv
        obtain ⟨vx, hvx, hwx⟩ := hdue _ (hxs _ (List.getElem_mem hj))
        refine testsOf_nil ?_
        refine ift ?_
        walk_at "a22"
        refine ldcG (by exact Z) hce (by rfl) (by rfl) (Heap.IsCell.hk hcD hk3) ?_
        walk_at "a7"
        refine item_dict (knd := SK w) (kvs := kd) (sk w _ _) (by exact ⟨odu, Z.now _ _ (hk3 _ _ hodu), hpdu⟩) hvx ?_ (by with_unfolding_all rfl)
        exact EltEnd.mk Z (Hk.refl _) ⟨by simp [hzl], by omega, by rw [List.take_succ_eq_append_getElem hj, List.map_append]; exact WordsV_snoc hzs (hwx.hk hk3)⟩
      · rintro D2 g3 g4 zs h25 tk25 hk3 hk4 hD2n ⟨hzl, _, hzs⟩ hD2 Y
        rw [hys1, List.take_length] at hzs
        skip
        refine notin_words (by exact (PlainHk hD2 Y.now).isList) ((hzs.hk hk4).hk Y.now) (by have := rm.hu; rw [cLine]; omega) ?_
        walk_at "a26"
        refine ifb (fun hn => ?_) (fun hn => ?_)
        · (walk_at "a58"; walk_at "a60")
          refine newTuple_g FrOk.nil (by exact Y) (by simp [sizeLine_eq]) (fun t1 g5 h26 hk5 Y ht1 => ?_)
          exact ValAnd.mk ⟨g5, (hk3.trans hk4).trans hk5, Y, by unfold row0; rw [if_pos hn]; exact ⟨t1, [], rfl, ht1, .nil⟩⟩
        · walk_at "a20"
          exact ValAnd.mk ⟨g4, hk3.trans hk4, Y, by unfold row0; rw [if_neg hn]; rfl⟩
    rintro vr h26 tk26 ⟨g26, hk26, Y, hvr⟩
    have W := W.mono hk26
    have hcG := Heap.IsCell.hk hcG hk26
    have hcD := Heap.IsCell.hk hcD hk26
    have hG := hG.hk hk26
    have hodu := hk26 _ _ hodu
    have hD := PlainHk hD hk26
    have hdue : ∀ x ∈ namesOf (ppOf size f r), ∃ v, valueAt kd x = some v ∧ WordV g26 v (dueN size x) := fun x hx => by
      obtain ⟨v, h1, h2⟩ := hdue x hx; exact ⟨v, h1, h2.hk hk26⟩
    (walk_at "a17"; walk_at "a2"; walk_at "a0"; walk_at "a62"; walk_at "a7")
    refine for_list (fun j g' m led => led = [(tp, isTape (10 + 4 * (i + 1))), (I2, it2)] ∧ m "some" = some (.ref D) ∧ (∃ v, m "row" = some v ∧ WordV g' v ((xs.take j).foldl (rowF size) (row0 size xs))) ∧ ∀ a, (xs.take j).foldl (rowF size) (row0 size xs) = some a → a.length ≤ 10000 * j) rm he (by rfl) (by assumption) hD.isList FrOk.nil
      ⟨rfl, by walk_at "hv", ⟨vr, by walk_at "hv", hvr⟩, fun a ha => by
        have ha : row0 size xs = some a := ha
        unfold row0 at ha
        split at ha
        · rw [← Option.some.inj ha]; simp
        · cases ha⟩ ?_ ?_ (by intro f s' q; exact q)
    · rintro j v g3 m3 led3 h3 tk3 it3 I3 E3 hv hk3 ⟨rfl, hms, ⟨v, hmr, hvr⟩, hlen2⟩ Y
      obtain ⟨hj, tx, rfl⟩ := StrsAre.at hys hv
      obtain ⟨vx, hvx, hwx⟩ := hdue _ (hxs _ (List.getElem_mem hj))
      have W := W.mono hk3
      refine absS (h := h3) is0 ⟨_, by with_unfolding_all rfl⟩ (fun tk0 => ?_)
      have htk := foldl_take (rowF size) (row0 size xs) xs hj
      (walk_at "a0"; walk_at "a37"; walk_at "a28"; walk_at "a25"; walk_at "a7"; walk_at "a20")
      cases hfo : (xs.take j).foldl (rowF size) (row0 size xs) with
      | none =>
        rw [hfo] at hvr
        cases hvr
        refine is_none_none ?_
        (walk_at "a26"; walk_at "at"; walk_at "a20"; walk_at "a17"; walk_at "a2"; walk_at "a1"; walk_at "a4")
        refine TurnEnd.mk (by assumption) (Hk.refl _) ⟨rfl, by walk_at "hv", ⟨_, by walk_at "hv", ?_⟩, fun a ha => ?_⟩
        · rw [htk, hfo]; rfl
        · rw [htk, hfo] at ha; cases ha
      | some a =>
        rw [hfo] at hvr
        obtain ⟨tr1, us, rfl, htr, hus⟩ := hvr
        have hne := row0_some hfo _ (List.getElem_mem hj)
        cases hdx : dueN size xs[j] with
        | none => exact absurd hdx hne
        | some b =>
          rw [hdx] at hwx
          obtain ⟨tb1, ub, rfl, htb, hub⟩ := hwx
          have hbl := dueN_len hsz (hxs _ (List.getElem_mem hj)) hdx
          have hal := hlen2 a hfo
          have e1 := hus.length
          have e2 := hub.length
          rw [List.length_map] at e1 e2
          refine is_none_ref ?_
          (walk_at "a26"; walk_at "an"; walk_at "a23"; walk_at "a7"; walk_at "a22")
          refine ldcG (by exact Y) he (by rfl) (by rfl) (Heap.IsCell.hk hcD hk3) ?_
          walk_at "a7"
          refine item_dict (knd := SK w) (kvs := kd) (sk w _ _) (by exact ⟨odu, Y.now _ _ (hk3 _ _ hodu), hpdu⟩) hvx ?_ (by with_unfolding_all rfl)
          refine add_tup FrOk.nil (by exact Y) htr (Heap.IsTuple.hk htb hk3) (by rw [sizeLine_eq]; omega) (fun t4 g4 h4 hk4 Y ht4 => ?_)
          (walk_at "a17"; walk_at "a2"; walk_at "a1"; walk_at "a4")
          have hr : rowF size (some a) xs[j] = some (a ++ b) := by unfold rowF; rw [hdx]
          refine TurnEnd.mk (by assumption) hk4 ⟨rfl, by walk_at "hv", ⟨_, by walk_at "hv", ?_⟩, fun c hc => ?_⟩
          · rw [htk, hfo, hr]
            exact ⟨t4, _, rfl, ht4, by rw [nats_append]; exact hus.append hub⟩
          · rw [htk, hfo, hr] at hc
            rw [← Option.some.inj hc, List.length_append]; omega
    rintro g27 m27 led27 h27 tk27 hk27 ⟨rfl, hms, ⟨vr, hmr, hvr⟩, _⟩ Y
    rw [hys1, List.take_length] at hvr
    have W := W.mono hk27
    have hcG := Heap.IsCell.hk hcG hk27
    have hG := hG.hk hk27
    have hD := PlainHk hD hk27
    (walk_at "a2"; walk_at "a0"; walk_at "af"; walk_at "a25"; walk_at "a50"; walk_at "a8"; walk_at "a51"; walk_at "a61")
    refine ldcG (by exact Y) he (by rfl) (by rfl) hcG ?_
    walk_at "a61"
    refine ListComp_ (cl' := [("grammar", L' + 2)]) (closureFor_cells he.cells (by rfl) (by rfl)) (by rfl) (by rfl) ?_ (by intro _; with_unfolding_all rfl)
    walk_at "a7"
    refine comp_list rm he (by exact Y) hD.isList (fun j g' zs => zs.length = j ∧ j ≤ 4 ∧ IntsAre zs (nats ((xs.take j).map (namesOf (ppOf size f r)).idxOf))) ⟨rfl, by omega, .nil⟩ (by omega) (fun i g ys hJ => by omega) (by rfl) (by rfl) (by rfl) ?_ ?_
    · rintro j v g3 zs C D2 I3 h3 tk3 mc it3 cenv E3 hce hv hk3 ⟨hzl, hj4, hzs⟩ Z
      obtain ⟨hj, tx, rfl⟩ := StrsAre.at hys hv
      have hxm := hxs _ (List.getElem_mem hj)
      have W := W.mono hk3
      have hG := hG.hk hk3
      have o1 := hG.obj; have o2 := hG.n3
      refine testsOf_nil ?_
      refine ift ?_
      walk_at "a49"
      refine ldcG (by exact Z) hce (by rfl) (by rfl) (Heap.IsCell.hk hcG hk3) ?_
      skip
      (walk_at "meth1"; walk_at "a51"; walk_at "a61"; walk_at "a7"; walk_at "a60"; walk_at "a55")
      refine number_spec (k := k) (rm.less (by omega)) W (by exact Z.now) hG (fun ta h11 tk11 hk11 => ?_)
      have Z := Z.keeps hk11
      have hnum : numOf (namesOf (ppOf size f r)) xs[j] = (((namesOf (ppOf size f r)).idxOf xs[j] : Nat) : Int) := by unfold numOf; rw [if_pos hxm]
      rw [hnum]
      exact EltEnd.mk Z (Hk.refl _) ⟨by simp [hzl], by omega, by rw [List.take_succ_eq_append_getElem hj, List.map_append, nats_append]; exact hzs.append (.cons _ _ .nil)⟩
    rintro D3 g3 g4 zs h28 tk28 hk3 hk4 hD3n ⟨hzl, _, hzs⟩ hD3 Y
    rw [hys1, List.take_length] at hzs
    have hk34 := hk3.trans hk4
    walk_at "a60"
    refine ⟨hk34.trans Y.now, ?_⟩
    have W := W.mono hk34
    have hG := hG.hk hk34
    have hvr := hvr.hk hk34
    refine least_sentence_spec (k := k) (rm.less (by omega)) W (by exact Y.now) hG hwf N hN hsm (.inr hD3.isList) hzs (by simp; omega) (fun q hq => ?_) (fun v h29 tk29 g29 iS O hch hv => ?_)
    · obtain ⟨y, hy, rfl⟩ := List.mem_map.mp hq
      exact List.idxOf_lt_length_iff.mpr (hxs y hy)
    have Y := Y.out O
    rw [jw_row0 (size := size) (fun y hy => by rw [hwd iS hch _ (List.idxOf_lt_length_iff.mpr (hxs y hy)), nm_idx (hxs y hy)])] at hv
    walk_at "a7"
    refine ne_words (hv.hk Y.now) (hvr.hk (O.old.trans Y.now)) rm.units ?_
    (walk_at "a26"; walk_at "an"; walk_at "a1"; walk_at "a2"; walk_at "a1"; walk_at "a4")
    exact TurnEnd.mk (by exact Y.swap) (hk2022.trans (hk2224.trans (hk26.trans (hk27.trans (hk34.trans O.old))))) rfl
  rintro g28 m28 led28 h28 tk28 hk28 rfl Y
  (walk_at "a2"; walk_at "a0"; walk_at "a36"; walk_at "a21"; walk_at "a3")
  exact hQ _ _ _ Y.toOut
end
end Mine
end
section
open PySem PySem.W PyProof.Rows
namespace Mine
theorem rm0 : Rm callerA 8 := ⟨rfl, by decide, by decide⟩
theorem law_at (w : World) : nsIn (Kf w) mainGlobals "law" = some (some (.ref 243)) := by rfl
theorem post_ok (xs : List Int) : PySem.Challenge.rw_qd0057_01.row.claim.post [ofPy (PyData.list (List.map PyData.int xs))] (WData.bool true) [ofPy (PyData.list (List.map PyData.int xs))] = true := by
  unfold RowW.claim
  simp only [Bool.and_eq_true]
  refine ⟨?_, ?_⟩
  · show WShape.has _ (WData.bool true) .bool = true
    simp [WShape.has, WShape.arms]
  · show WTm.holds [] (.eq .res (.lit (.bool true))) _ = true
    simp [WTm.holds, WTm.value, PySem.W.same]
set_option maxHeartbeats 8000000 in
theorem final : PySem.Challenge.rw_qd0057_01.Holds := head (fun q loose XP d kwd hdn => by
  intro w s₀ s₁ mg mb G Y fa o pm cd doc dV kV ho hd hcd hD hmg hg args vals as hpre hlay hrd hwl hlo
  have KX := kIn_of Y
  refine Ground.open G ?_
  intro T B D TE TW
  have W : Wd w mg mb s₁.heap := ⟨KX, T.g, T.b, T.nolimit, T.builtins⟩
  have e := mg_of W.K W.G (law_at w)
  rw [hdn] at hmg
  have hfa : fa = 243 := by
    have q := hmg.symm.trans e
    injection q with q
    injection q
  subst hfa
  clear hd hcd hD hmg ho
  wrow_args hpre hlay hrd hwl hlo
  all_goals first | refine callC_kw (enter_call ?_) | refine enter_call ?_ | refine callC_kw (enter_callW ?_) | refine enter_callW ?_ | w_how
  try refine codeAny_mono ?_ (fun _ _ g => GoodW.toG g)
  refine law_spec (k := 0) W (Hk.refl _) rm0 (by assumption) (by assumption) (by omega) (fun g' h' tk O => ?_)
  exact ⟨.inl ⟨_, .bool true, [], rfl, fun _ => rfl, .bool true, post_ok _, fun _ => ⟨List.nodup_nil, fun a h => nomatch h⟩⟩, fun b o e => O.keep b o (by simp) e, rfl, hg⟩)
end Mine
end
theorem PySem.Challenge.cw_qd0057_01_holds : PySem.Challenge.rw_qd0057_01.Holds := by
  exact Mine.final
