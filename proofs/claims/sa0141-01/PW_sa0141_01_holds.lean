import PyProof.Rows.All
import Wide.All
import OpenK.AllK
import Wide.FinOn
import KE.LcTurns
import PyProof.Rows.LoopInvT
import Lean
import PySem.Challenge.RW_sa0141_01
open PySem PySem.W PyProof.Rows
set_option Elab.async false
set_option maxRecDepth 100000
set_option maxHeartbeats 40000000
set_option linter.unusedVariables false
set_option compiler.extract_closed false
namespace Mine
namespace HD
abbrev R : RowW := OpenRow.toRowW (OpenLaw.row PySem.Challenge.rw_sa0141_01)
noncomputable def pick (n : Nat) : Stmt := PySem.Challenge.pw_sa0141_01.main.body.getD n default
noncomputable def initStmt : Stmt := match pick 2 with
  | .ClassDef _ _ _ b _ _ _ _ _ _ _ => b.getD 0 default
  | s => s
noncomputable def fnObj (s : Stmt) (q : Str) (dflt pm : Value) (code : Addr) : Obj := match s with
  | .FunctionDef n ps b _ _ _ sc _ _ _ => { cls := .type "function", data := .func { name := n, qualname := q, params := ps, body := .stmts b, scope := sc, globals := 3, closure := [], defaults := dflt, kwdefaults := .none, pyModule := pm, code := .ref code } }
  | _ => default
noncomputable def lawDef : DefRec := match pick 18 with
  | .FunctionDef n ps b _ _ _ sc _ _ p => ⟨n, ps, b, sc, p⟩
  | _ => ⟨default, default, default, default, default⟩
noncomputable def view_39 : Program := { PySem.Challenge.pw_sa0141_01 with main := { PySem.Challenge.pw_sa0141_01.main with body := [pick 1, pick 2, pick 4, pick 6, pick 7, pick 8, pick 9, pick 11, pick 12, pick 13, pick 14, pick 15, pick 16, pick 17, pick 18] } }

set_option linter.unusedVariables false in
noncomputable def heap_39 : Params → Frag := fun P =>
  (nat_lit 2, { cls := Value.none, data := Data.dict #[{ hash := PyData.keyHash P (Str.ofString "type.__subclasses__.Exception.0"), key := Value.str (Str.ofString "type.__subclasses__.Exception.0") 205, val := Value.int 24 0 }, { hash := PyData.keyHash P (Str.ofString "type.__subclasses__.Exception.n"), key := Value.str (Str.ofString "type.__subclasses__.Exception.n") 206, val := Value.int 1 0 }] 2 }) ::
   (nat_lit 3, { cls := Value.type "dict", data := Data.dict #[{ hash := PyData.keyHash P (Str.ofString "__name__"), key := Value.str (Str.ofString "__name__") 165, val := Value.str (Str.ofString "law_sa0141_01") 283 }, { hash := PyData.keyHash P (Str.ofString "__doc__"), key := Value.str (Str.ofString "__doc__") 166, val := Value.none }, { hash := PyData.keyHash P (Str.ofString "__package__"), key := Value.str (Str.ofString "__package__") 167, val := Value.none }, { hash := PyData.keyHash P (Str.ofString "__loader__"), key := Value.str (Str.ofString "__loader__") 168, val := Value.builtin "__main__.__loader__#opaque" }, { hash := PyData.keyHash P (Str.ofString "__spec__"), key := Value.str (Str.ofString "__spec__") 169, val := Value.none }, { hash := PyData.keyHash P (Str.ofString "__annotations__"), key := Value.str (Str.ofString "__annotations__") 170, val := Value.ref 6 }, { hash := PyData.keyHash P (Str.ofString "__builtins__"), key := Value.str (Str.ofString "__builtins__") 171, val := Value.ref 4 }, { hash := PyData.keyHash P (Str.ofString "__file__"), key := Value.str (Str.ofString "__file__") 173, val := Value.str (Str.ofString "/claim/cut.py") 172 }, { hash := PyData.keyHash P (Str.ofString "__cached__"), key := Value.str (Str.ofString "__cached__") 174, val := Value.none }, { hash := PyData.keyHash P (Str.ofString "ClausemillError"), key := Value.str (Str.ofString "ClausemillError") 208, val := Value.ref 24 }, { hash := PyData.keyHash P (Str.ofString "LinkFault"), key := Value.str (Str.ofString "LinkFault") 234, val := Value.ref 45 }, { hash := PyData.keyHash P (Str.ofString "shapes"), key := Value.str (Str.ofString "shapes") 242, val := Value.ref 54 }, { hash := PyData.keyHash P (Str.ofString "targets"), key := Value.str (Str.ofString "targets") 256, val := Value.ref 61 }, { hash := PyData.keyHash P (Str.ofString "goes_on"), key := Value.str (Str.ofString "goes_on") 264, val := Value.ref 68 }, { hash := PyData.keyHash P (Str.ofString "reachable"), key := Value.str (Str.ofString "reachable") 280, val := Value.ref 75 }, { hash := PyData.keyHash P (Str.ofString "INT"), key := Value.str (Str.ofString "INT") 282, val := Value.int 5 281 }, { hash := PyData.keyHash P (Str.ofString "_law_figures"), key := Value.str (Str.ofString "_law_figures") 295, val := Value.ref 82 }, { hash := PyData.keyHash P (Str.ofString "_law_draw"), key := Value.str (Str.ofString "_law_draw") 303, val := Value.ref 89 }, { hash := PyData.keyHash P (Str.ofString "_law_row_drawn"), key := Value.str (Str.ofString "_law_row_drawn") 316, val := Value.ref 96 }, { hash := PyData.keyHash P (Str.ofString "_law_named"), key := Value.str (Str.ofString "_law_named") 323, val := Value.ref 103 }, { hash := PyData.keyHash P (Str.ofString "_law_falls"), key := Value.str (Str.ofString "_law_falls") 330, val := Value.ref 110 }, { hash := PyData.keyHash P (Str.ofString "_law_added"), key := Value.str (Str.ofString "_law_added") 336, val := Value.ref 115 }, { hash := PyData.keyHash P (Str.ofString "_law_reached"), key := Value.str (Str.ofString "_law_reached") 345, val := Value.ref 122 }, { hash := PyData.keyHash P (Str.ofString "law"), key := Value.str (Str.ofString "law") 351, val := Value.ref 127 }] 24 }) ::
   (nat_lit 6, { cls := Value.type "dict", data := Data.dict #[] }) ::
   (nat_lit 15, { cls := Value.type "tuple", data := Data.seq #[Value.type "Exception"] }) ::
   (nat_lit 22, { cls := Value.type "tuple", data := Data.seq #[] }) ::
   (nat_lit 23, { cls := Value.type "dict", data := Data.dict #[{ hash := PyData.keyHash P (Str.ofString "__module__"), key := Value.str (Str.ofString "__module__") 196, val := Value.str (Str.ofString "clausemill.symbols") 187 }, { hash := PyData.keyHash P (Str.ofString "__firstlineno__"), key := Value.str (Str.ofString "__firstlineno__") 200, val := Value.int 2 199 }, { hash := PyData.keyHash P (Str.ofString "__static_attributes__"), key := Value.str (Str.ofString "__static_attributes__") 201, val := Value.ref 22 }, { hash := PyData.keyHash P (Str.ofString "__weakref__"), key := Value.str (Str.ofString "__weakref__") 203, val := Value.ref 25 }, { hash := PyData.keyHash P (Str.ofString "__doc__"), key := Value.str (Str.ofString "__doc__") 204, val := Value.none }] 3 }) ::
   (nat_lit 24, { cls := Value.type "type", data := Data.cls { name := Str.ofString "ClausemillError", bases := [Value.type "Exception"], mro := [Value.ref 24, Value.type "Exception", Value.type "BaseException", Value.type "object"], ns := 23, qualname := Str.ofString "ClausemillError", subclasses := [Value.ref 45] }, slots := #[some (Value.ref 15), none, some (Value.str (Str.ofString "ClausemillError") 189), some (Value.str (Str.ofString "ClausemillError") 197), some (Value.builtin "Exception.__new__"), some (Value.bool true)] }) ::
   (nat_lit 25, { cls := Value.type "getset_descriptor", data := Data.fields #[Value.str (Str.ofString "__weakref__") 202, Value.ref 24, Value.builtin "ExceptionGroup.__weakref__", Value.none] }) ::
   (nat_lit 28, { cls := Value.type "tuple", data := Data.seq #[Value.ref 24] }) ::
   (nat_lit 35, { cls := Value.type "tuple", data := Data.seq #[Value.str (Str.ofString "") 221] }) ::
   (nat_lit 36, { cls := Value.type "tuple", data := Data.seq #[] }) ::
   (nat_lit 38, { cls := Value.type "tuple", data := Data.seq #[Value.str (Str.ofString "self") 225, Value.str (Str.ofString "what") 226] }) ::
   (nat_lit 39, { cls := Value.type "tuple", data := Data.seq #[] }) ::
   (nat_lit 41, { cls := Value.type "code", data := Data.fields #[Value.str (Str.ofString "__init__") 222, Value.str (Str.ofString "LinkFault.__init__") 223, Value.str (Str.ofString "/claim/cut.py") 224, Value.int 6 0, Value.int 2 0, Value.int 0 0, Value.int 0 0, Value.int 3 0, Value.ref 36, Value.bool true, Value.int 181 0, Value.ref 37, Value.none, Value.ref 38, Value.ref 39, Value.ref 40, Value.int 227 0, Value.int 6 0, Value.str (Str.ofString "/claim/cut.py") 228] }) ::
   (nat_lit 42, HD.fnObj HD.initStmt (Str.ofString "LinkFault.__init__") (Value.ref 35) (Value.str (Str.ofString "clausemill.symbols") 187) 41) ::
   (nat_lit 43, { cls := Value.type "tuple", data := Data.seq #[Value.str (Str.ofString "what") 230] }) ::
   (nat_lit 44, { cls := Value.type "dict", data := Data.dict #[{ hash := PyData.keyHash P (Str.ofString "__module__"), key := Value.str (Str.ofString "__module__") 216, val := Value.str (Str.ofString "clausemill.symbols") 187 }, { hash := PyData.keyHash P (Str.ofString "__firstlineno__"), key := Value.str (Str.ofString "__firstlineno__") 220, val := Value.int 4 219 }, { hash := PyData.keyHash P (Str.ofString "__init__"), key := Value.str (Str.ofString "__init__") 229, val := Value.ref 42 }, { hash := PyData.keyHash P (Str.ofString "__static_attributes__"), key := Value.str (Str.ofString "__static_attributes__") 231, val := Value.ref 43 }, { hash := PyData.keyHash P (Str.ofString "__doc__"), key := Value.str (Str.ofString "__doc__") 232, val := Value.none }] 2 }) ::
   (nat_lit 45, { cls := Value.type "type", data := Data.cls { name := Str.ofString "LinkFault", bases := [Value.ref 24], mro := [Value.ref 45, Value.ref 24, Value.type "Exception", Value.type "BaseException", Value.type "object"], ns := 44, qualname := Str.ofString "LinkFault" }, slots := #[some (Value.ref 28), none, some (Value.str (Str.ofString "LinkFault") 209), some (Value.str (Str.ofString "LinkFault") 217), some (Value.builtin "Exception.__new__"), some (Value.bool true)] }) ::
   (nat_lit 48, { cls := Value.type "tuple", data := Data.seq #[] }) ::
   (nat_lit 50, { cls := Value.type "tuple", data := Data.seq #[] }) ::
   (nat_lit 51, { cls := Value.type "tuple", data := Data.seq #[] }) ::
   (nat_lit 53, { cls := Value.type "code", data := Data.fields #[Value.str (Str.ofString "shapes") 237, Value.str (Str.ofString "shapes") 238, Value.str (Str.ofString "/claim/cut.py") 239, Value.int 9 0, Value.int 0 0, Value.int 0 0, Value.int 0 0, Value.int 3 0, Value.ref 48, Value.bool true, Value.int 181 0, Value.ref 49, Value.none, Value.ref 50, Value.ref 51, Value.ref 52, Value.int 240 0, Value.int 9 0, Value.str (Str.ofString "/claim/cut.py") 241] }) ::
   (nat_lit 54, HD.fnObj (HD.pick 4) (Str.ofString "shapes") Value.none (Value.str (Str.ofString "clausemill.assembler") 235) 53) ::
   (nat_lit 55, { cls := Value.type "tuple", data := Data.seq #[] }) ::
   (nat_lit 57, { cls := Value.type "tuple", data := Data.seq #[Value.str (Str.ofString "ins") 248, Value.str (Str.ofString "kinds") 249, Value.str (Str.ofString "found") 250, Value.str (Str.ofString "place") 251, Value.str (Str.ofString "value") 252, Value.str (Str.ofString "key") 253] }) ::
   (nat_lit 58, { cls := Value.type "tuple", data := Data.seq #[] }) ::
   (nat_lit 60, { cls := Value.type "code", data := Data.fields #[Value.str (Str.ofString "targets") 245, Value.str (Str.ofString "targets") 246, Value.str (Str.ofString "/claim/cut.py") 247, Value.int 12 0, Value.int 2 0, Value.int 0 0, Value.int 0 0, Value.int 3 0, Value.ref 55, Value.bool true, Value.int 181 0, Value.ref 56, Value.none, Value.ref 57, Value.ref 58, Value.ref 59, Value.int 254 0, Value.int 12 0, Value.str (Str.ofString "/claim/cut.py") 255] }) ::
   (nat_lit 61, HD.fnObj (HD.pick 6) (Str.ofString "targets") Value.none (Value.str (Str.ofString "clausemill.codecheck") 243) 60) ::
   (nat_lit 62, { cls := Value.type "tuple", data := Data.seq #[] }) ::
   (nat_lit 64, { cls := Value.type "tuple", data := Data.seq #[Value.str (Str.ofString "ins") 260, Value.str (Str.ofString "name") 261] }) ::
   (nat_lit 65, { cls := Value.type "tuple", data := Data.seq #[] }) ::
   (nat_lit 67, { cls := Value.type "code", data := Data.fields #[Value.str (Str.ofString "goes_on") 257, Value.str (Str.ofString "goes_on") 258, Value.str (Str.ofString "/claim/cut.py") 259, Value.int 22 0, Value.int 1 0, Value.int 0 0, Value.int 0 0, Value.int 3 0, Value.ref 62, Value.bool true, Value.int 181 0, Value.ref 63, Value.none, Value.ref 64, Value.ref 65, Value.ref 66, Value.int 262 0, Value.int 22 0, Value.str (Str.ofString "/claim/cut.py") 263] }) ::
   (nat_lit 68, HD.fnObj (HD.pick 7) (Str.ofString "goes_on") Value.none (Value.str (Str.ofString "clausemill.codecheck") 243) 67) ::
   (nat_lit 69, { cls := Value.type "tuple", data := Data.seq #[] }) ::
   (nat_lit 71, { cls := Value.type "tuple", data := Data.seq #[Value.str (Str.ofString "instrs") 268, Value.str (Str.ofString "base") 269, Value.str (Str.ofString "entry") 270, Value.str (Str.ofString "table") 271, Value.str (Str.ofString "seen") 272, Value.str (Str.ofString "pending") 273, Value.str (Str.ofString "end") 274, Value.str (Str.ofString "address") 275, Value.str (Str.ofString "ins") 276, Value.str (Str.ofString "target") 277] }) ::
   (nat_lit 72, { cls := Value.type "tuple", data := Data.seq #[] }) ::
   (nat_lit 74, { cls := Value.type "code", data := Data.fields #[Value.str (Str.ofString "reachable") 265, Value.str (Str.ofString "reachable") 266, Value.str (Str.ofString "/claim/cut.py") 267, Value.int 27 0, Value.int 3 0, Value.int 0 0, Value.int 0 0, Value.int 3 0, Value.ref 69, Value.bool true, Value.int 181 0, Value.ref 70, Value.none, Value.ref 71, Value.ref 72, Value.ref 73, Value.int 278 0, Value.int 27 0, Value.str (Str.ofString "/claim/cut.py") 279] }) ::
   (nat_lit 75, HD.fnObj (HD.pick 8) (Str.ofString "reachable") Value.none (Value.str (Str.ofString "clausemill.codecheck") 243) 74) ::
   (nat_lit 76, { cls := Value.type "tuple", data := Data.seq #[] }) ::
   (nat_lit 78, { cls := Value.type "tuple", data := Data.seq #[Value.str (Str.ofString "script") 288, Value.str (Str.ofString "figures") 289, Value.str (Str.ofString "cell") 290, Value.str (Str.ofString "whole") 291, Value.str (Str.ofString "turn") 292] }) ::
   (nat_lit 79, { cls := Value.type "tuple", data := Data.seq #[] }) ::
   (nat_lit 81, { cls := Value.type "code", data := Data.fields #[Value.str (Str.ofString "_law_figures") 285, Value.str (Str.ofString "_law_figures") 286, Value.str (Str.ofString "/claim/cut.py") 287, Value.int 47 0, Value.int 1 0, Value.int 0 0, Value.int 0 0, Value.int 3 0, Value.ref 76, Value.bool true, Value.int 181 0, Value.ref 77, Value.none, Value.ref 78, Value.ref 79, Value.ref 80, Value.int 293 0, Value.int 47 0, Value.str (Str.ofString "/claim/cut.py") 294] }) ::
   (nat_lit 82, HD.fnObj (HD.pick 11) (Str.ofString "_law_figures") Value.none (Value.str (Str.ofString "law_sa0141_01") 283) 81) ::
   (nat_lit 83, { cls := Value.type "tuple", data := Data.seq #[] }) ::
   (nat_lit 85, { cls := Value.type "tuple", data := Data.seq #[Value.str (Str.ofString "figures") 299, Value.str (Str.ofString "many") 300] }) ::
   (nat_lit 86, { cls := Value.type "tuple", data := Data.seq #[] }) ::
   (nat_lit 88, { cls := Value.type "code", data := Data.fields #[Value.str (Str.ofString "_law_draw") 296, Value.str (Str.ofString "_law_draw") 297, Value.str (Str.ofString "/claim/cut.py") 298, Value.int 59 0, Value.int 2 0, Value.int 0 0, Value.int 0 0, Value.int 3 0, Value.ref 83, Value.bool true, Value.int 181 0, Value.ref 84, Value.none, Value.ref 85, Value.ref 86, Value.ref 87, Value.int 301 0, Value.int 59 0, Value.str (Str.ofString "/claim/cut.py") 302] }) ::
   (nat_lit 89, HD.fnObj (HD.pick 12) (Str.ofString "_law_draw") Value.none (Value.str (Str.ofString "law_sa0141_01") 283) 88) ::
   (nat_lit 90, { cls := Value.type "tuple", data := Data.seq #[] }) ::
   (nat_lit 92, { cls := Value.type "tuple", data := Data.seq #[Value.str (Str.ofString "figures") 307, Value.str (Str.ofString "low") 308, Value.str (Str.ofString "many") 309, Value.str (Str.ofString "kind") 310, Value.str (Str.ofString "goals") 311, Value.str (Str.ofString "turn") 312, Value.str (Str.ofString "spot") 313] }) ::
   (nat_lit 93, { cls := Value.type "tuple", data := Data.seq #[] }) ::
   (nat_lit 95, { cls := Value.type "code", data := Data.fields #[Value.str (Str.ofString "_law_row_drawn") 304, Value.str (Str.ofString "_law_row_drawn") 305, Value.str (Str.ofString "/claim/cut.py") 306, Value.int 63 0, Value.int 3 0, Value.int 0 0, Value.int 0 0, Value.int 3 0, Value.ref 90, Value.bool true, Value.int 181 0, Value.ref 91, Value.none, Value.ref 92, Value.ref 93, Value.ref 94, Value.int 314 0, Value.int 63 0, Value.str (Str.ofString "/claim/cut.py") 315] }) ::
   (nat_lit 96, HD.fnObj (HD.pick 13) (Str.ofString "_law_row_drawn") Value.none (Value.str (Str.ofString "law_sa0141_01") 283) 95) ::
   (nat_lit 97, { cls := Value.type "tuple", data := Data.seq #[] }) ::
   (nat_lit 99, { cls := Value.type "tuple", data := Data.seq #[Value.str (Str.ofString "row") 320] }) ::
   (nat_lit 100, { cls := Value.type "tuple", data := Data.seq #[] }) ::
   (nat_lit 102, { cls := Value.type "code", data := Data.fields #[Value.str (Str.ofString "_law_named") 317, Value.str (Str.ofString "_law_named") 318, Value.str (Str.ofString "/claim/cut.py") 319, Value.int 86 0, Value.int 1 0, Value.int 0 0, Value.int 0 0, Value.int 3 0, Value.ref 97, Value.bool true, Value.int 181 0, Value.ref 98, Value.none, Value.ref 99, Value.ref 100, Value.ref 101, Value.int 321 0, Value.int 86 0, Value.str (Str.ofString "/claim/cut.py") 322] }) ::
   (nat_lit 103, HD.fnObj (HD.pick 14) (Str.ofString "_law_named") Value.none (Value.str (Str.ofString "law_sa0141_01") 283) 102) ::
   (nat_lit 104, { cls := Value.type "tuple", data := Data.seq #[] }) ::
   (nat_lit 106, { cls := Value.type "tuple", data := Data.seq #[Value.str (Str.ofString "row") 327] }) ::
   (nat_lit 107, { cls := Value.type "tuple", data := Data.seq #[] }) ::
   (nat_lit 109, { cls := Value.type "code", data := Data.fields #[Value.str (Str.ofString "_law_falls") 324, Value.str (Str.ofString "_law_falls") 325, Value.str (Str.ofString "/claim/cut.py") 326, Value.int 94 0, Value.int 1 0, Value.int 0 0, Value.int 0 0, Value.int 3 0, Value.ref 104, Value.bool true, Value.int 181 0, Value.ref 105, Value.none, Value.ref 106, Value.ref 107, Value.ref 108, Value.int 328 0, Value.int 94 0, Value.str (Str.ofString "/claim/cut.py") 329] }) ::
   (nat_lit 110, HD.fnObj (HD.pick 15) (Str.ofString "_law_falls") Value.none (Value.str (Str.ofString "law_sa0141_01") 283) 109) ::
   (nat_lit 111, { cls := Value.type "tuple", data := Data.seq #[] }) ::
   (nat_lit 114, { cls := Value.type "code", data := Data.fields #[Value.str (Str.ofString "_law_added") 331, Value.str (Str.ofString "_law_added") 332, Value.str (Str.ofString "/claim/cut.py") 333, Value.int 96 0, Value.int 2 0, Value.int 0 0, Value.int 0 0, Value.int 3 0, Value.ref 111, Value.bool true, Value.int 181 0, Value.ref 112, Value.none, Value.none, Value.none, Value.ref 113, Value.int 334 0, Value.int 96 0, Value.str (Str.ofString "/claim/cut.py") 335] }) ::
   (nat_lit 115, HD.fnObj (HD.pick 16) (Str.ofString "_law_added") Value.none (Value.str (Str.ofString "law_sa0141_01") 283) 114) ::
   (nat_lit 116, { cls := Value.type "tuple", data := Data.seq #[] }) ::
   (nat_lit 118, { cls := Value.type "tuple", data := Data.seq #[Value.str (Str.ofString "rows") 340, Value.str (Str.ofString "low") 341, Value.str (Str.ofString "start") 342] }) ::
   (nat_lit 119, { cls := Value.type "tuple", data := Data.seq #[] }) ::
   (nat_lit 121, { cls := Value.type "code", data := Data.fields #[Value.str (Str.ofString "_law_reached") 337, Value.str (Str.ofString "_law_reached") 338, Value.str (Str.ofString "/claim/cut.py") 339, Value.int 107 0, Value.int 3 0, Value.int 0 0, Value.int 0 0, Value.int 3 0, Value.ref 116, Value.bool true, Value.int 181 0, Value.ref 117, Value.none, Value.ref 118, Value.ref 119, Value.ref 120, Value.int 343 0, Value.int 107 0, Value.str (Str.ofString "/claim/cut.py") 344] }) ::
   (nat_lit 122, HD.fnObj (HD.pick 17) (Str.ofString "_law_reached") Value.none (Value.str (Str.ofString "law_sa0141_01") 283) 121) ::
   (nat_lit 123, { cls := Value.type "tuple", data := Data.seq #[] }) ::
   (nat_lit 126, { cls := Value.type "code", data := Data.fields #[Value.str (Str.ofString "law") 346, Value.str (Str.ofString "law") 347, Value.str (Str.ofString "/claim/cut.py") 348, Value.int 112 0, Value.int 1 0, Value.int 0 0, Value.int 0 0, Value.int 3 0, Value.ref 123, Value.bool true, Value.int 181 0, Value.ref 124, Value.none, Value.none, Value.none, Value.ref 125, Value.int 349 0, Value.int 112 0, Value.str (Str.ofString "/claim/cut.py") 350] }) ::
   (nat_lit 127, HD.fnObj (HD.pick 18) (Str.ofString "law") Value.none (Value.str (Str.ofString "law_sa0141_01") 283) 126) :: []
noncomputable def addrs : List Nat := [2, 3, 6, 15, 22, 23, 24, 25, 28, 35, 36, 38, 39, 41, 42, 43, 44, 45, 48, 50, 51, 53, 54, 55, 57, 58, 60, 61, 62, 64, 65, 67, 68, 69, 71, 72, 74, 75, 76, 78, 79, 81, 82, 83, 85, 86, 88, 89, 90, 92, 93, 95, 96, 97, 99, 100, 102, 103, 104, 106, 107, 109, 110, 111, 114, 115, 116, 118, 119, 121, 122, 123, 126, 127]
theorem addrs_eq : ∀ P, addrs = (heap_39 P).map (·.1) := fun _ => by kernel_rfl
noncomputable abbrev hook : Hook := kHook heap_39 addrs addrs_eq
noncomputable abbrev Xt : Shared → Bool := fun s => xlAt view_39 [] s && recOk (RowW.records R) s
-- the machine's own words in the quick spelling that the library keeps beside them
theorem said : OpenLaw.wellSaid PySem.Challenge.rw_sa0141_01 = true := (congrFun PySem.W.Fast.te9446332074065402090 _).trans (by kernel_rfl)
noncomputable def topQ (p : Program) (w : World) (N : Nat) (s₀ : Shared) : Option Shared :=
  match s₀.heap.isNs mainGlobals && s₀.gens.size == 0 with
  | true => (PySem.W.Fast.tw14082659384304107361 PySem.W.Fast.tw14364793385576792824 p w s₀.heap.objs.size (s₀.heap.nsMap mainGlobals (Str.ofString "__annotations__")) N s₀ (topStub p)).bind fun s₁ =>
      match staticsOk (importedModules p.main.body) s₀.heap s₁.heap && namesBound p s₁.heap && gensDone s₁ && laidKept s₀.heap s₁.heap with
      | true => some s₁
      | false => none
  | false => none
theorem topQ_eq (p : Program) (w : World) (N : Nat) : topFrom treeTable p w N = topQ p w N := by
  funext s₀
  unfold topFrom topQ
  rw [← PySem.W.Fast.te14082659384304107361, ← PySem.W.Fast.te14364793385576792824]
  rfl
noncomputable def endsQ (p : Program) (w : World) (N : Nat) : Option Shared :=
  ((PySem.W.Fast.tw10274390034422433532 PySem.W.Fast.tw14364793385576792824 (opening p) w N (PySem.W.Fast.tw1435165496053646825 (opening p)).1 (PySem.W.Fast.tw1435165496053646825 (opening p)).2).bind (PySem.W.Fast.tw14289696077712309145 p)).bind (topQ p w N)
theorem endsQ_eq (p : Program) (w : World) (N : Nat) : openEnds treeTable p w N = endsQ p w N := by
  unfold openEnds fencedOpening endsQ
  rw [topQ_eq, ← PySem.W.Fast.te10274390034422433532, ← PySem.W.Fast.te14364793385576792824, ← PySem.W.Fast.te1435165496053646825, ← PySem.W.Fast.te14289696077712309145]
theorem leftQ (w : World) : (endsQ PySem.Challenge.pw_sa0141_01 w 1840).map (fun s => (PySem.W.Fast.tw4187177175401517315 view_39 [Str.ofString "LinkFault"] (importedModules PySem.Challenge.pw_sa0141_01.main.body) Xt true s, Hook.obs hook s)) = some (openGood view_39 [Str.ofString "LinkFault"], Hook.val hook w) := by
  kernel_rfl
theorem left : LeftO PySem.Challenge.pw_sa0141_01 view_39 [Str.ofString "LinkFault"] Xt (Hook.obs hook) (Hook.val hook) 1840 := by
  intro w
  rw [endsQ_eq, PySem.W.Fast.te4187177175401517315]
  exact leftQ w
theorem promised : (OpenRow.toRowW (OpenLaw.row PySem.Challenge.rw_sa0141_01)).promised := by w_witness2
end HD
theorem HD {n : Str} {ps : Arguments} {b : List Stmt} {sc : Scope} {p : Pos} (hd : HD.lawDef = ⟨n, ps, b, sc, p⟩) (walk : WalkO HD.view_39 [Str.ofString "LinkFault"] (XL HD.view_39 []) (kHook HD.heap_39 HD.addrs HD.addrs_eq).says (OpenRow.toRowW (OpenLaw.row PySem.Challenge.rw_sa0141_01)) ⟨n, ps, b, sc, p⟩ [] fun f vs => PySem.call f vs) : PySem.Challenge.rw_sa0141_01.Holds :=
  holds_law HD.said fun said =>
    holds_open (q := HD.view_39) (loose := [Str.ofString "LinkFault"]) (Xt := HD.Xt) (XP := XL HD.view_39 []) (Yf := Hook.obs HD.hook) (Ya := Hook.val HD.hook) (YP := Hook.says HD.hook) (N := 1840) (d := HD.lawDef) HD.left (Hook.of HD.hook) (Hook.keeps HD.hook)
      (fun s e => xl_of s (Bool.and_eq_true_iff.mp e).1) XL.keeps (by kernel_rfl) (by kernel_rfl) (by kernel_rfl) (fun s e => recFacts_of (Bool.and_eq_true_iff.mp e).2) (by rfl) said (by decide +kernel) ⟨rfl, rfl, rfl, rfl, rfl, by decide +kernel⟩ HD.promised (hd ▸ walk)
end Mine
open Mine
namespace Mine
abbrev PG : Program := RowW.prog (OpenRow.toRowW (OpenLaw.row PySem.Challenge.rw_sa0141_01))
abbrev Led := List (Addr × Obj)
/-- what a call of a def gives: it comes back, with a value and a ledger that `post` tells of -/
def Spec (w : World) (k : Nat) (f : Addr) (args : List Value) (news : Led) (post : Value → Led → Prop) : Prop :=
  ∀ (mean : ExcName → Option Value) (mg mb : Str → Option Value) (dp un : Nat) (gd : Option (List Code)) (cn : Str) (cs : Scope) (a : Addr) (ccd : Value) (cl : List (Str × Addr)) (outer : List Env) (A₀ : Around) (base h₀ : Heap) (L : Addr) (m : Str → Option Value) (s : Shared) (Q E : Value → Shared → Prop),
    Below A₀ base outer h₀ → Fr h₀ L s.heap m → (HD.heap_39 w.params).In h₀ → News h₀ L s.heap news → Top HD.view_39 (looseW HD.view_39 [Str.ofString "LinkFault"]) mean mg mb h₀ → cs.kind = .function →
    dp + k < recursionLimit → un + 100 * k < cLine →
    (∀ r news' h' tk', Fr h₀ L h' m → News h₀ L h' news' → post r news' → Q r { s with heap := h', toks := tk' }) →
    wpAny (model PG w) (ktrTop dp un gd cn cs L a ccd cl outer) (call (.ref f) args) Q E s
theorem Spec.use {w : World} {k : Nat} {f : Addr} {args : List Value} {news : Led} {post : Value → Led → Prop} (C : Spec w k f args news post)
    {mean : ExcName → Option Value} {mg mb : Str → Option Value} {dp un : Nat} {gd : Option (List Code)} {cn : Str} {cs : Scope} {a : Addr} {ccd : Value} {cl : List (Str × Addr)} {outer : List Env} {A₀ : Around} {base h₀ : Heap} {L : Addr} {m : Str → Option Value} {s : Shared} {Q E : Value → Shared → Prop}
    {news₀ : Led} (B : Below A₀ base outer h₀) (F : Fr h₀ L s.heap m) (X : (HD.heap_39 w.params).In h₀) (N : News h₀ L s.heap news₀) (T : Top HD.view_39 (looseW HD.view_39 [Str.ofString "LinkFault"]) mean mg mb h₀) (hk : cs.kind = .function)
    (hs : ∀ p ∈ news, p ∈ news₀) (hd : dp + k < recursionLimit) (hu : un + 100 * k < cLine)
    (ret : ∀ r news' h' tk', Fr h₀ L h' m → News h₀ L h' news' → post r news' → Q r { s with heap := h', toks := tk' }) :
    wpAny (model PG w) (ktrTop dp un gd cn cs L a ccd cl outer) (call (.ref f) args) Q E s :=
  C _ _ _ _ _ _ _ _ _ _ _ _ _ _ _ _ _ _ _ _ B F X (fun p hp => N p (hs p hp)) T hk hd hu ret
theorem filled : (PySem.Challenge.rw_sa0141_01 = PySem.Challenge.rw_sa0141_01) ∧ (HD.heap_39 = HD.heap_39) := by
  k_fill
  exact ⟨rfl, rfl⟩
theorem sub_tail {p : Addr × Obj} {l l' : Led} (h : ∀ q ∈ l, q ∈ l') : ∀ q ∈ l, q ∈ p :: l' := fun q hq => .tail _ (h q hq)
theorem sub_refl {l : Led} : ∀ q ∈ l, q ∈ l := fun _ h => h
/-- the goal behind a letter, while a fact is taken apart -/
theorem hide {p : Prop} (h : ∀ G : Prop, (p → G) → G) : p := h p id
theorem lt_ne {d : Addr} {l : Led} (h : ∀ p ∈ l, p.1 < d) : ∀ p ∈ l, p.1 ≠ d := fun p hp => Nat.ne_of_lt (h p hp)
theorem allLt_lt {d : Addr} {l : Led} (h : AllLt d l) : ∀ p ∈ l, p.1 < d := by
  induction l with
  | nil => intro p hp; cases hp
  | cons q r ih =>
    intro p hp
    rcases List.mem_cons.mp hp with e | hp
    · rw [e]; exact h.1
    · exact ih h.2 p hp
end Mine
-- `(have _ : (PySem.Challenge.rw_sa0141_01 = PySem.Challenge.rw_sa0141_01) ∧ (HD.heap_39 = HD.heap_39) := by k_fill; exact ⟨rfl, rfl⟩)`: the table of the written part
-- the ledger's parts
local macro_rules | `(tactic| walk_at "m:sub") => `(tactic| first | exact sub_refl | exact sub_tail (by walk_at "m:sub") | (intro _ _; simp_all; done))
local macro_rules | `(tactic| k_all) => `(tactic| first | assumption | exact lt_ne (by assumption) | exact lt_ne (allLt_lt (by assumption)))
local macro_rules | `(tactic| walk_at "m:w0") => `(tactic| (have hcL9 := cLine_is; (try simp only [units_under_make, units_in1, units_deeper, Around.mark_units, units_caller]); (try dsimp only [ktrTop]); omega))
local macro_rules | `(tactic| units_room) => `(tactic| walk_at "m:w0")
local macro_rules | `(tactic| k_units) => `(tactic| walk_at "m:w0")
-- at each statement what follows gets a name (smaller proofs)
local macro_rules | `(tactic| walk_at "execs cons") => `(tactic| (k_here; (with_reducible refine wpAny_execs_cons ?_); (try dsimp only); k_fold))
namespace Mine
/-- the rows that the law draws -/
inductive RowD where
  | cut | call | glist
  | proceed | execute | fail | halt | mcall | cfail | dyn
  | tryR (g : Int) | retry (g : Int) | trust (g : Int)
  | sot (a b c d : Int)
  | sos (a b : Int)
  | soc (a b c : Int)
  | push
abbrev tupO (vs : List Value) (n : Nat) : Obj := { cls := .type "tuple", data := .seq vs.toArray n }
abbrev S (x : String) (t : Tok) : Value := .str (Str.ofString x) t
/-- the ledger bears the row at v -/
inductive RowAt (w : World) (news : List (Addr × Obj)) : Value → RowD → Prop
  | cut {a t n} : (a, tupO [S "neck_cut" t] n) ∈ news → RowAt w news (.ref a) .cut
  | call {a t u v n} : (a, tupO [S "call" t, .int 5 u, .int 1 v] n) ∈ news → RowAt w news (.ref a) .call
  | glist {a b t u v n k} : (a, tupO [S "get_list" t, .ref b] n) ∈ news → (b, tupO [S "x" u, .int 1 v] k) ∈ news → RowAt w news (.ref a) .glist
  | proceed {a t n} : (a, tupO [S "proceed" t] n) ∈ news → RowAt w news (.ref a) .proceed
  | execute {a t u n} : (a, tupO [S "execute" t, .int 5 u] n) ∈ news → RowAt w news (.ref a) .execute
  | fail {a t n} : (a, tupO [S "fail" t] n) ∈ news → RowAt w news (.ref a) .fail
  | halt {a t n} : (a, tupO [S "halt" t] n) ∈ news → RowAt w news (.ref a) .halt
  | mcall {a t u n} : (a, tupO [S "meta_call" t, .int 2 u] n) ∈ news → RowAt w news (.ref a) .mcall
  | cfail {a t n} : (a, tupO [S "catch_fail" t] n) ∈ news → RowAt w news (.ref a) .cfail
  | dyn {a t n} : (a, tupO [S "dyn_retry" t] n) ∈ news → RowAt w news (.ref a) .dyn
  | tryR {a t g u v n} : (a, tupO [S "try" t, .int g u, .int 3 v] n) ∈ news → RowAt w news (.ref a) (.tryR g)
  | retry {a t g u n} : (a, tupO [S "retry" t, .int g u] n) ∈ news → RowAt w news (.ref a) (.retry g)
  | trust {a t g u n} : (a, tupO [S "trust" t, .int g u] n) ∈ news → RowAt w news (.ref a) (.trust g)
  | sot {a t g0 g1 g2 g3 u0 u1 u2 u3 n} : (a, tupO [S "switch_on_term" t, .int g0 u0, .int g1 u1, .int g2 u2, .int g3 u3] n) ∈ news → RowAt w news (.ref a) (.sot g0 g1 g2 g3)
  | sos {a d t u n o g0 g1 u0} : (a, tupO [S "switch_on_structure" t, .ref d, .int g1 u] n) ∈ news → (d, o) ∈ news → o.IsDictOf (intKind PG w) [(30, .int g0 u0)] → (d == sysModules) = false → RowAt w news (.ref a) (.sos g0 g1)
  | soc {a d t u n g0 g1 g2} : (a, tupO [S "switch_on_constant" t, .ref d, .int g2 u] n) ∈ news →
      TupTab (intKind PG w) PyData.int news d [(encTuple PyData.int [5, 0], PyData.int g0), (encTuple PyData.int [5, -4], PyData.int g1)] → RowAt w news (.ref a) (.soc g0 g1 g2)
  | push {a t n} : (a, tupO [S "catch_push" t] n) ∈ news → RowAt w news (.ref a) .push
theorem TupTab.mono {prog : Program} {w : World} {K : Type} [DecidableEq K] {knd : KeyKind prog w K} {enc : K → PyData} {l l' : Led} {d : Addr} {D : List (PyData × PyData)} (hs : ∀ p ∈ l, p ∈ l') (T : TupTab knd enc l d D) : TupTab knd enc l' d D :=
  let ⟨lo, o, es, ep, xs, hm, hc, hd, he, hn, hk, hf⟩ := T
  ⟨lo, o, es, ep, xs, hs _ hm, hc, hd, he, hn, fun x hx => let ⟨okx, hmk, t⟩ := hk x hx; ⟨okx, hs _ hmk, t⟩, hf⟩
theorem RowAt.mono {w : World} {l l' : Led} {v : Value} {r : RowD} (hs : ∀ p ∈ l, p ∈ l') (h : RowAt w l v r) : RowAt w l' v r := by
  cases h with
  | cut h => exact .cut (hs _ h)
  | call h => exact .call (hs _ h)
  | glist h k => exact .glist (hs _ h) (hs _ k)
  | proceed h => exact .proceed (hs _ h)
  | execute h => exact .execute (hs _ h)
  | fail h => exact .fail (hs _ h)
  | halt h => exact .halt (hs _ h)
  | mcall h => exact .mcall (hs _ h)
  | cfail h => exact .cfail (hs _ h)
  | dyn h => exact .dyn (hs _ h)
  | tryR h => exact .tryR (hs _ h)
  | retry h => exact .retry (hs _ h)
  | trust h => exact .trust (hs _ h)
  | sot h => exact .sot (hs _ h)
  | sos h k e lo => exact .sos (hs _ h) (hs _ k) e lo
  | soc h T => exact .soc (hs _ h) (TupTab.mono hs T)
  | push h => exact .push (hs _ h)
/-- the goals that a row names, in the order in which targets tells them -/
def RowD.goals : RowD → List Int
  | .tryR g | .retry g | .trust g => [g]
  | .sot a b c d => [a, b, c, d]
  | .sos a b => [a, b]
  | .soc a b c => [a, b, c]
  | _ => []
def RowD.name : RowD → String
  | .cut => "neck_cut" | .call => "call" | .glist => "get_list" | .proceed => "proceed" | .execute => "execute" | .fail => "fail" | .halt => "halt"
  | .mcall => "meta_call" | .cfail => "catch_fail" | .dyn => "dyn_retry" | .tryR _ => "try" | .retry _ => "retry" | .trust _ => "trust" | .sot _ _ _ _ => "switch_on_term"
  | .sos _ _ => "switch_on_structure" | .soc _ _ _ => "switch_on_constant" | .push => "catch_push"
def RowD.kinds : RowD → String
  | .cut => "" | .call => "FN" | .glist => "X" | .proceed => "" | .execute => "F" | .fail => "" | .halt => ""
  | .mcall => "N" | .cfail => "" | .dyn => "" | .tryR _ => "LN" | .retry _ => "L" | .trust _ => "L" | .sot _ _ _ _ => "LLLL"
  | .sos _ _ => "UL" | .soc _ _ _ => "TL" | .push => ""
/-- can the row behind it come next -/
def RowD.falls : RowD → Bool
  | .cut | .call | .glist | .tryR _ | .retry _ | .push => true
  | _ => false
/-- every row is a tuple that opens with its name -/
theorem row_head {w : World} {news : Led} {v : Value} {r : RowD} (h : RowAt w news v r) : ∃ a t rest n, v = .ref a ∧ (a, tupO (S r.name t :: rest) n) ∈ news := by
  cases h <;> exact ⟨_, _, _, _, rfl, by assumption⟩
end Mine
namespace Mine
/-- which tokens the state has drawn is all one -/
theorem any_toks {α : Type} {M : Model} {A : Around} {E : Value → Shared → Prop} {s : Shared} {t : Sem α} {Q : α → Shared → Prop} {h : Heap} {n : Nat} (k : ∀ tk, wpAny M A t Q E { s with heap := h, toks := tk }) : wpAny M A t Q E { s with heap := h, toks := n } := k n
theorem item_head {prog : Program} {w : World} {A : Around} {E : Value → Shared → Prop} {s : Shared} {value slice : PySem.Expr} {t : Addr} {rest : List Value} {u : Tok} {x : Value} {Q : Value → Shared → Prop} (ht : IsTup s.heap t (x :: rest).toArray) (h : Q x s)
    (hs : subscripted slice false (.ref t) (.int 0 u) = operate [.ref t, .int 0 u] (getItem (.ref t) (.int 0 u)) := by with_unfolding_all rfl) :
    wpAny (model prog w) A (subscriptTail value slice (.ref t) (.int 0 u)) Q E s :=
  item_tupleT ht (j := 0) (by decide) (by decide) (by unfold seqIndex?; simp) rfl h hs
theorem item_second {prog : Program} {w : World} {A : Around} {E : Value → Shared → Prop} {s : Shared} {value slice : PySem.Expr} {t : Addr} {rest : List Value} {u : Tok} {x y : Value} {Q : Value → Shared → Prop} (ht : IsTup s.heap t (x :: y :: rest).toArray) (h : Q y s)
    (hs : subscripted slice false (.ref t) (.int 1 u) = operate [.ref t, .int 1 u] (getItem (.ref t) (.int 1 u)) := by with_unfolding_all rfl) :
    wpAny (model prog w) A (subscriptTail value slice (.ref t) (.int 1 u)) Q E s := by
  refine item_tupleT ht (j := 1) (by decide) (by decide) ?_ rfl h hs
  unfold seqIndex?
  rw [List.length_cons, List.length_cons]
  simp only [show ¬ ((1 : Int) < 0) from by decide, if_false]
  rw [if_pos (by simp only [Bool.and_eq_true, decide_eq_true_eq]; omega)]
  rfl
end Mine
local macro_rules | `(tactic| walk_at "subscriptTail Name Constant ref int") => `(tactic| (k_here; (with_reducible show wpAny _ _ (subscriptTail _ _ (Value.ref _) (Value.int 0 _)) _ _ _); k_dflt (refine' Mine.item_head ?t ?_; (case t => exact News.isTup (by k_asm) (by k_mem)); k_whole)))
local macro_rules | `(tactic| walk_at "subscriptTail Name Constant ref int") => `(tactic| (k_here; (with_reducible show wpAny _ _ (subscriptTail _ _ (Value.ref _) (Value.int 1 _)) _ _ _); k_dflt (refine' Mine.item_second ?t ?_; (case t => exact News.isTup (by k_asm) (by k_mem)); k_whole)))
namespace Mine
theorem falls_spec (w : World) (v : Value) (r : RowD) (news : Led) (hr : RowAt w news v r) :
    Spec w 1 110 [v] news (fun x l => x = .bool r.falls ∧ ∀ p ∈ news, p ∈ l) := by
  unfold Spec
  intro mean mg mb dp un gd cn cs a ccd cl outer A₀ base h₀ L m s Q E B F X N T hk hdp hun hret
  (have _ : (PySem.Challenge.rw_sa0141_01 = PySem.Challenge.rw_sa0141_01) ∧ (HD.heap_39 = HD.heap_39) := by k_fill; exact ⟨rfl, rfl⟩)
  refine wpAny_call ?_
  obtain ⟨av, t, rest, n, rfl, hm⟩ := row_head hr
  clear hr
  k_dflt cell_enter
  rename Fr _ _ _ _ => F0
  have F1 : Fr _ _ _ (fun y => List.lookup y [(Str.ofString "row", .ref av)]) := F0
  clear F0
  refine any_toks fun tk0 => ?_
  k_steps
  refine hret _ _ _ _ (by k_asm) (by k_asm) ⟨?_, by walk_at "m:sub"⟩
  refine congrArg Value.bool ?_
  cases r <;> rfl
end Mine
namespace Mine
theorem goes_spec (w : World) (v : Value) (r : RowD) (news : Led) (hr : RowAt w news v r) :
    Spec w 1 68 [v] news (fun x l => x = .bool r.falls ∧ ∀ p ∈ news, p ∈ l) := by
  unfold Spec
  intro mean mg mb dp un gd cn cs a ccd cl outer A₀ base h₀ L m s Q E B F X N T hk hdp hun hret
  (have _ : (PySem.Challenge.rw_sa0141_01 = PySem.Challenge.rw_sa0141_01) ∧ (HD.heap_39 = HD.heap_39) := by k_fill; exact ⟨rfl, rfl⟩)
  refine wpAny_call ?_
  obtain ⟨av, t, rest, n, rfl, hm⟩ := row_head hr
  clear hr
  k_dflt cell_enter
  rename Fr _ _ _ _ => F0
  have F1 : Fr _ _ _ (fun y => List.lookup y [(Str.ofString "ins", .ref av)]) := F0
  clear F0
  refine any_toks fun tk0 => ?_
  k_steps
  all_goals
    refine hret _ _ _ _ (by k_asm) (by k_asm) ⟨?_, by walk_at "m:sub"⟩
    rename (List.any _ _) = _ => hany
    refine congrArg Value.bool ?_
    clear hm
    cases r <;> dsimp only [RowD.name, RowD.falls] at hany ⊢ <;> first | rfl | exact absurd hany (by decide)
end Mine
namespace Mine
/-- the walk stops here -/
@[irreducible] def Stop (P : Prop) : Prop := P
theorem Stop.mk {P : Prop} (h : P) : Stop P := by unfold Stop; exact h
theorem Stop.out {P : Prop} (h : Stop P) : P := by unfold Stop at h; exact h
theorem For_mine {prog : Program} {w : World} {A : Around} {E : Value → Shared → Prop} {s : Shared} {h₀ : Heap} {env : Env} {x : Str} {body : List Stmt} {Q : Flow → Shared → Prop} {m : Str → Option Value} {px pos : Pos} {iter : PySem.Expr}
    (F : Fr h₀ env.locals s.heap m) (hx : env.kindOf x = some .local)
    (hp : (env.scope.kind == .class || (env.scope.kind == .module && env.locals != env.globals)) = false)
    (h : wpAny (model prog w) A (eval iter env) (fun xv s₁ => Stop (wpAny (model prog w) A (pyIter xv) (fun it s₂ => LoopAtV prog w A h₀ env x body Q E it s₂) E s₁)) E s)
    (hs : ∀ x, foldedSetIterable iter env x = pure x := by intro _; rfl)
    (hE : PassesOwn (model prog w) A env E := by passes_own) :
    wpAny (model prog w) A (exec (.For (.Name x px) iter body [] pos) env) Q E s :=
  For_invVF F hx hp (wpAny_mono h (fun _ _ q => q.out) fun _ _ e => e) hs hE
/-- names with values ahead of a map -/
def over : List (Str × Value) → (Str → Option Value) → Str → Option Value
  | [], m => m
  | p :: r, m => fun y => if y = p.1 then some p.2 else over r m y
theorem over_eq {l : List (Str × Value)} {m : Str → Option Value} (h : ∀ p ∈ l, m p.1 = some p.2) : over l m = m := by
  induction l with
  | nil => rfl
  | cons p r ih =>
    funext y
    show (if y = p.1 then some p.2 else over r m y) = m y
    rw [ih fun q hq => h q (.tail _ hq)]
    split
    · rename_i e; rw [e]; exact (h p (.head _)).symm
    · rfl
/-- these names hold these values -/
def Vars (m : Str → Option Value) : List (Str × Value) → Prop
  | [] => True
  | p :: r => m p.1 = some p.2 ∧ Vars m r
theorem Vars.all {m : Str → Option Value} {l : List (Str × Value)} (h : Vars m l) : ∀ p ∈ l, m p.1 = some p.2 := by
  induction l with
  | nil => intro p hp; cases hp
  | cons q r ih =>
    intro p hp
    rcases List.mem_cons.mp hp with e | hp
    · rw [e]; exact h.1
    · exact ih h.2 p hp
theorem Fr.vars {h₀ h : Heap} {L : Addr} {m : Str → Option Value} {l : List (Str × Value)} {x : Str} {v : Value} (V : Vars m l) (F : Fr h₀ L h (fun y => if y = x then some v else m y)) : Fr h₀ L h (fun y => if y = x then some v else over l m y) := by
  rw [over_eq V.all]; exact F
theorem Fr.vars' {h₀ h : Heap} {L : Addr} {m : Str → Option Value} {l : List (Str × Value)} (V : Vars m l) (F : Fr h₀ L h m) : Fr h₀ L h (over l m) := by
  rw [over_eq V.all]; exact F
section
variable {prog : Program} {w : World} {A : Around} {E : Value → Shared → Prop} {s : Shared} {env : Env} {h₀ : Heap} {x : Str} {body : List Stmt} {Q : Flow → Shared → Prop}
theorem off_left {own nx tl : Led} (h : OwnOff own ((nx ++ tl).map (·.1))) : OwnOff own (nx.map (·.1)) := fun p hp b hb => h p hp b (by rw [List.map_append]; exact List.mem_append_left _ hb)
/-- for x in range(n) -/
theorem range_loop {r : Addr} {n : Nat} {b : Int} {t₀ u₀ v₀ : Tok} {m₀ : Str → Option Value} {news : Led} (J : Nat → (Str → Option Value) → Led → Prop)
    (hh : A.handled = none) (hr : IsRange s.heap r 0 b 1 t₀ u₀ v₀) (hb : b = (n : Int)) (hn : n < 2 ^ 60) (F : Fr h₀ env.locals s.heap m₀) (N : News h₀ env.locals s.heap news) (hj : J 0 m₀ news)
    (turn : ∀ (i : Nat) t m₁ nx h tk own, i < n → OwnOff own (nx.map (·.1)) → J i m₁ nx → Fr h₀ env.locals h (fun y => if y = x then some (.int (i : Int) t) else m₁ y) → News h₀ env.locals h (nx ++ own) →
      wpAny (model prog w) A (execs body env) (InvPostG h₀ env.locals (J (i + 1)) own { s with heap := h, toks := tk } Q) E { s with heap := h, toks := tk })
    (done : ∀ m₁ nx h tk, J n m₁ nx → Fr h₀ env.locals h m₁ → News h₀ env.locals h nx → Q .next { s with heap := h, toks := tk }) :
    Stop (wpAny (model prog w) A (pyIter (.ref r)) (fun it s₂ => LoopAtV prog w A h₀ env x body Q E it s₂) E s) := by
  subst hb
  refine Stop.mk ?_
  have hsmall : Builtin.Range.small 0 (n : Int) 1 = true := small_one (by omega) (by omega) (by omega) (by omega)
  have hsz : Builtin.Range.rangeSize 0 (n : Int) 1 = (n : Int) := by rw [rangeSize_nat]; omega
  refine wpAny_pyIter_range hr hsmall ?_
  have W : Walks prog w A s.heap.objs.size [s.heap.objs.size] [s.heap.objs.size] n (fun i v => ∃ t, v = .int (0 + i * 1) t)
      (fun i h => IsRangeIter h s.heap.objs.size (0 + (i : Nat) * 1) ((n : Int) - (i : Nat)) 1) := Walks.range hh _ 0 1 n
  refine kdr_loop J W (fun _ h => h) (fun _ h => h) ?_ ?_ ?_ ?_ (by show IsRangeIter _ _ _ _ _; rw [hsz]; simpa using Heap.get?_push_size _ rfl) (F.push _) (fun p hp => ⟨Heap.get?_push_of_some _ (N p hp).1, (N p hp).2⟩) hj ?_ ?_
  · intro i h hi b hb
    rw [List.mem_singleton.mp hb]
    exact ⟨_, hi⟩
  · intro hm
    exact absurd F.ns.lt ((List.mem_singleton.mp hm) ▸ Nat.lt_irrefl _)
  · intro b hb
    rw [List.mem_singleton.mp hb]
    exact next_is_new F
  · intro p hp hI
    exact absurd (Heap.lt_size (N p hp).1) ((List.mem_singleton.mp hI) ▸ Nat.lt_irrefl _)
  · rintro i v m₁ nx h tk own hi ⟨t, rfl⟩ hoff hJ F₁ N₁
    have e1 : (0 : Int) + (i : Int) * 1 = (i : Int) := by omega
    rw [e1] at F₁
    exact turn i t m₁ nx h tk own hi hoff hJ F₁ N₁
  · intro m₁ nx h tk hJ F₁ N₁
    exact done m₁ nx h tk hJ F₁ N₁
/-- for x in a list of the ledger, that the turns leave as it is -/
theorem list_loop {l : Addr} {vs : List Value} {nn : Nat} {m₀ : Str → Option Value} {news : Led} (J : Nat → (Str → Option Value) → Led → Prop)
    (hh : A.handled = none) (F : Fr h₀ env.locals s.heap m₀) (N : News h₀ env.locals s.heap news) (hl : (l, listOf vs.toArray nn) ∈ news) (hj : J 0 m₀ news)
    (turn : ∀ i v m₁ nx h tk own, vs[i]? = some v → OwnOff own (nx.map (·.1)) → (l, listOf vs.toArray nn) ∈ nx → J i m₁ nx → Fr h₀ env.locals h (fun y => if y = x then some v else m₁ y) → News h₀ env.locals h (nx ++ own) →
      wpAny (model prog w) A (execs body env) (InvPostG h₀ env.locals (fun m' nx => (l, listOf vs.toArray nn) ∈ nx ∧ J (i + 1) m' nx) own { s with heap := h, toks := tk } Q) E { s with heap := h, toks := tk })
    (done : ∀ m₁ nx h tk, J vs.length m₁ nx → Fr h₀ env.locals h m₁ → News h₀ env.locals h nx → Q .next { s with heap := h, toks := tk }) :
    Stop (wpAny (model prog w) A (pyIter (.ref l)) (fun it s₂ => LoopAtV prog w A h₀ env x body Q E it s₂) E s) :=
  Stop.mk (kdl_iter J hh hl F N hj turn done)
/-- for x in a list that stands since before -/
theorem old_loop {l : Addr} {vs : List Value} {ns : List Int} {m₀ : Str → Option Value} {news : Led} (J : Nat → (Str → Option Value) → Led → Prop)
    (hh : A.handled = none) (hl : h₀.IsList l vs.toArray) (hi : IntsAre vs ns) (F : Fr h₀ env.locals s.heap m₀) (N : News h₀ env.locals s.heap news) (hj : J 0 m₀ news)
    (turn : ∀ i n t m₁ nx h tk own, ns[i]? = some n → OwnOff own (nx.map (·.1)) → J i m₁ nx → Fr h₀ env.locals h (fun y => if y = x then some (.int n t) else m₁ y) → News h₀ env.locals h (nx ++ own) →
      wpAny (model prog w) A (execs body env) (InvPostG h₀ env.locals (J (i + 1)) own { s with heap := h, toks := tk } Q) E { s with heap := h, toks := tk })
    (done : ∀ m₁ nx h tk, J ns.length m₁ nx → Fr h₀ env.locals h m₁ → News h₀ env.locals h nx → Q .next { s with heap := h, toks := tk }) :
    Stop (wpAny (model prog w) A (pyIter (.ref l)) (fun it s₂ => LoopAtV prog w A h₀ env x body Q E it s₂) E s) :=
  Stop.mk (iter_invG J hh hl hi F N hj (fun i n t m₁ nx h tk own hn _ ho hJ F₁ N₁ => turn i n t m₁ nx h tk own hn ho hJ F₁ N₁) done)
end
/-- the ledger behind a call that changed one object -/
theorem news_updF {h₀ h' : Heap} {L d : Addr} {o o' : Obj} {news l : Led} {g : Obj → Led} (U : UpdF d o news g) (N : News h₀ L h' l) (hm : (d, o') ∈ l) (hs : ∀ p ∈ news, p.1 ≠ d → p ∈ l) : News h₀ L h' (g o') := by
  obtain ⟨pre, post, rfl, hg, a, b⟩ := U.split
  rw [hg]
  intro p hp
  rcases List.mem_append.mp hp with h | h
  · exact N p (hs p (List.mem_append_left _ h) (a p h))
  · rcases List.mem_cons.mp h with rfl | h
    · exact N _ hm
    · exact N p (hs p (List.mem_append_right _ (.tail _ h)) (b p h))
theorem updF_mem {d : Addr} {o : Obj} {news : Led} {g : Obj → Led} (U : UpdF d o news g) : (d, o) ∈ news := by
  obtain ⟨pre, post, rfl, _⟩ := U.split
  exact List.mem_append_right _ (.head _)
theorem sub_cons {p : Addr × Obj} {l l' : Led} (h : ∀ q ∈ l, q ∈ l') : ∀ q ∈ p :: l, q ∈ p :: l' := fun q hq => by
  rcases List.mem_cons.mp hq with e | hq
  · rw [e]; exact .head _
  · exact .tail _ (h q hq)
theorem sub_left {l l' : Led} : ∀ q ∈ l, q ∈ l ++ l' := fun _ h => List.mem_append_left _ h
theorem sub_right {l l' : Led} : ∀ q ∈ l', q ∈ l ++ l' := fun _ h => List.mem_append_right _ h
theorem m_mem {a : Addr × Obj} {l : Led} (h : a ∈ l) : List.Mem a l := h
theorem small_size {n : Nat} (h : n ≤ 1000) : n ≤ sizeLine := by rw [PySem.sizeLine_eq]; omega
end Mine
local macro_rules | `(tactic| size_fits) => `(tactic| (refine Mine.small_size ?_; (try simp only [List.size_toArray, List.length_append, List.length_cons, List.length_nil]); omega))
namespace Mine
theorem ite_t {c : Prop} [Decidable c] {a b : Prop} (hc : c) (h : a) : if c then a else b := by rw [if_pos hc]; exact h
theorem ite_f {c : Prop} [Decidable c] {a b : Prop} (hc : ¬ c) (h : b) : if c then a else b := by rw [if_neg hc]; exact h
end Mine
local macro_rules | `(tactic| walk_at "ite") => `(tactic| (with_reducible first | (refine' Mine.ite_t ?hc ?_; (case hc => with_unfolding_all decide)) | (refine' Mine.ite_f ?hc ?_; (case hc => with_unfolding_all decide))))
local macro_rules | `(tactic| walk_at "eval Dict") => `(tactic| (k_here; (with_reducible refine Dict_tup_made (by with_unfolding_all rfl) (by with_unfolding_all assumption) (by with_unfolding_all assumption) (modules_low (Top.nolimit (by with_reducible assumption))) (by with_unfolding_all rfl) (by with_unfolding_all rfl) (List.cons_ne_nil _ _) (by with_unfolding_all decide) ?_); intro _ _ _ _ _))
local macro_rules | `(tactic| walk_at "m:w1") => `(tactic| (k_here; (with_reducible show wpAny _ _ (subscriptTail _ _ (Value.ref _) (Value.int _ _)) _ _ _); k_dflt (refine' item_tupleT ?t ?a ?b ?c ?d ?_; (case t => exact News.isTup (by k_asm) (by k_mem)); (case a => decide); (case b => decide); (case c => rfl); (case d => rfl); k_whole)))
local macro_rules | `(tactic| walk_at "subscriptTail") => `(tactic| walk_at "m:w1")
local macro_rules | `(tactic| walk_at "subscriptTail Name Name ref int") => `(tactic| walk_at "m:w1")
local macro_rules | `(tactic| walk_at "subscriptTail Name Constant ref int") => `(tactic| walk_at "m:w1")
local macro_rules | `(tactic| walk_at "subscriptTail Name BinOp ref int") => `(tactic| walk_at "m:w1")
local macro_rules | `(tactic| walk_at "subscriptTail Subscript Name Name Constant ref int") => `(tactic| walk_at "m:w1")
local macro_rules | `(tactic| k_mem) => `(tactic| (with_reducible refine Mine.m_mem ?_; first | ktr_member | (refine List.mem_append_left _ ?_; ktr_member) | (refine List.mem_append_right _ ?_; ktr_member)))
local macro_rules | `(tactic| walk_at "m:w2") => `(tactic| (k_here; (with_reducible show wpAny _ _ (subscriptTail _ _ (Value.str _ _) (Value.int _ _)) _ _ _); k_dflt (refine' KXi.item rfl ?a ?b ?c ?_ ?d ?e; (case a => decide); (case b => decide); (case c => decide); (case d => with_unfolding_all rfl); (case e => (intro _; with_unfolding_all rfl)); k_whole); intro _))
local macro_rules | `(tactic| walk_at "subscriptTail") => `(tactic| walk_at "m:w2")
local macro_rules | `(tactic| walk_at "subscriptTail Name Name str int") => `(tactic| walk_at "m:w2")
local macro_rules | `(tactic| walk_at "subscriptTail Name Constant str int") => `(tactic| walk_at "m:w2")
local macro_rules | `(tactic| walk_at "subscriptTail Name BinOp str int") => `(tactic| walk_at "m:w2")
namespace Mine
theorem lt_of1 {a : Prop} {d : Addr} {l : Led} (h : a ∧ AllLt d l) : ∀ p ∈ l, p.1 < d := allLt_lt h.2
theorem lt_of2 {a b : Prop} {d : Addr} {l : Led} (h : a ∧ b ∧ AllLt d l) : ∀ p ∈ l, p.1 < d := allLt_lt h.2.2
theorem lt_of3 {a b c : Prop} {d : Addr} {l : Led} (h : a ∧ b ∧ c ∧ AllLt d l) : ∀ p ∈ l, p.1 < d := allLt_lt h.2.2.2
theorem lt_of4 {a b c e : Prop} {d : Addr} {l : Led} (h : a ∧ b ∧ c ∧ e ∧ AllLt d l) : ∀ p ∈ l, p.1 < d := allLt_lt h.2.2.2.2
theorem lt_of5 {a b c e f : Prop} {d : Addr} {l : Led} (h : a ∧ b ∧ c ∧ e ∧ f ∧ AllLt d l) : ∀ p ∈ l, p.1 < d := allLt_lt h.2.2.2.2.2
theorem lt_of6 {a b c e f g : Prop} {d : Addr} {l : Led} (h : a ∧ b ∧ c ∧ e ∧ f ∧ g ∧ AllLt d l) : ∀ p ∈ l, p.1 < d := allLt_lt h.2.2.2.2.2.2
end Mine
local macro_rules | `(tactic| walk_at "m:lt") => `(tactic| first | assumption | exact Mine.allLt_lt (by assumption) | exact Mine.lt_of1 (by assumption) | exact Mine.lt_of2 (by assumption) | exact Mine.lt_of3 (by assumption) | exact Mine.lt_of4 (by assumption) | exact Mine.lt_of5 (by assumption) | exact Mine.lt_of6 (by assumption))
local macro_rules | `(tactic| walk_at "m:w3") => `(tactic| (k_here; (rename Fr _ _ _ _ => lF'); (with_unfolding_all refine' For_mine lF' ?k1 ?k2 ?_; (case k1 => exact rfl); (case k2 => exact rfl); k_whole)))
local macro_rules | `(tactic| walk_at "exec For") => `(tactic| walk_at "m:w3")
local macro_rules | `(tactic| walk_at "exec For Name Call cons nil") => `(tactic| walk_at "m:w3")
local macro_rules | `(tactic| walk_at "exec For Name Name cons nil") => `(tactic| walk_at "m:w3")
local macro_rules | `(tactic| walk_at "exec For Name Subscript cons nil") => `(tactic| walk_at "m:w3")
local macro_rules | `(tactic| walk_at "exec For Name List cons nil") => `(tactic| walk_at "m:w3")
local macro_rules | `(tactic| walk_at "exec For Name Attribute cons nil") => `(tactic| walk_at "m:w3")
local macro_rules | `(tactic| walk_at "call type:range") => `(tactic| (k_here; (with_reducible show wpAny _ _ (call (Value.type _) [Value.int _ _]) _ _ _); (rename Fr _ _ _ _ => lF'); (rename News _ _ _ _ => lN'); (with_unfolding_all refine' range1_rows lF' lN' ?_); intro h' tk' t₁' u₁' v₁' hR' F' N' hK'; (try k_sweep)))
namespace Mine
/-- the list of figures -/
def Figs (o : Obj) : Prop := ∃ (vs : List Value) (ns : List Int) (n : Nat), o = listOf vs.toArray n ∧ IntsAre vs ns ∧ vs.length ≤ 1000
theorem ints_pos {vs : List Value} {ns : List Int} (h : IntsAre vs ns) (h0 : decide (ns = []) = false) : 0 < vs.length := by
  cases h with
  | nil => simp at h0
  | cons => simp
theorem ints_nil {vs : List Value} {ns : List Int} (h : IntsAre vs ns) (h0 : decide (ns = []) = true) : vs = [] := by
  cases h with
  | nil => rfl
  | cons => simp at h0
local macro_rules | `(tactic| walk_at "call builtin:list.pop") => `(tactic| (k_here; (with_reducible show wpAny _ _ (call (Value.builtin _) [Value.ref _]) _ _ _); k_dflt (refine' kpa_pop ?F ?N ?U ?i ?l ?z ?_; (case F => k_asm); (case N => k_asm); (case U => k_upd); (case i => with_reducible assumption); (case l => exact ints_pos (by assumption) (by assumption)); (case z => exact small_size (by assumption))); (intro h' t' F' N' hI'; (try dsimp only [List.nil_append, List.cons_append] at N'))))
theorem draw_spec (w : World) (f : Addr) (o : Obj) (many : Int) (tk : Tok) (news : Led) (ho : Figs o) (hf : ∀ p ∈ news, p.1 ≠ f) (h0 : 0 < many) (h1 : many < 2 ^ 62) :
    Spec w 1 89 [.ref f, .int many tk] ((f, o) :: news) (fun x l => (∃ i t, x = .int i t ∧ 0 ≤ i ∧ i < many) ∧ ∃ o', Figs o' ∧ ∀ p ∈ (f, o') :: news, p ∈ l) := by
  unfold Spec
  intro mean mg mb dp un gd cn cs a ccd cl outer A₀ base h₀ L m s Q E B F X N T hk hdp hun hret
  (have _ : (PySem.Challenge.rw_sa0141_01 = PySem.Challenge.rw_sa0141_01) ∧ (HD.heap_39 = HD.heap_39) := by k_fill; exact ⟨rfl, rfl⟩)
  refine wpAny_call ?_
  ((with_reducible refine Mine.hide fun G9 hG9 => ?_); obtain ⟨vs, ns, n, rfl, hi, hlen⟩ := ho; refine hG9 ?_; clear hG9 G9)
  k_dflt cell_enter
  k_steps
  · cases ints_nil hi (by assumption)
    exact hret _ _ _ _ (by k_asm) (by k_asm) ⟨⟨_, _, rfl, by omega, by omega⟩, _, ⟨_, _, _, rfl, hi, hlen⟩, by walk_at "m:sub"⟩
  · refine hret _ _ _ _ (by k_asm) (by k_asm) ⟨⟨_, _, rfl, ?_, ?_⟩, _, ⟨_, _, _, rfl, (by assumption), ?_⟩, by walk_at "m:sub"⟩
    · exact Int.fmod_nonneg_of_pos _ h0
    · exact Int.fmod_lt_of_pos _ h0
    · rw [List.length_dropLast]; omega
theorem draw_use {w : World} {f : Addr} {o : Obj} {many : Int} {tk : Tok} {news : Led} {g : Obj → Led}
    {mean : ExcName → Option Value} {mg mb : Str → Option Value} {dp un : Nat} {gd : Option (List Code)} {cn : Str} {cs : Scope} {a : Addr} {ccd : Value} {cl : List (Str × Addr)} {outer : List Env} {A₀ : Around} {base h₀ : Heap} {L : Addr} {m : Str → Option Value} {s : Shared} {Q E : Value → Shared → Prop}
    (B : Below A₀ base outer h₀) (F : Fr h₀ L s.heap m) (X : (HD.heap_39 w.params).In h₀) (N : News h₀ L s.heap news) (T : Top HD.view_39 (looseW HD.view_39 [Str.ofString "LinkFault"]) mean mg mb h₀) (hk : cs.kind = .function)
    (hdp : dp + 1 < recursionLimit) (hun : un + 100 < cLine) (U : UpdF f o news g) (ho : Figs o) (h0 : 0 < many) (h1 : many < 2 ^ 62)
    (ret : ∀ i t o' h' tk', Fr h₀ L h' m → News h₀ L h' (g o') → Figs o' → 0 ≤ i → i < many → Q (.int i t) { s with heap := h', toks := tk' }) :
    wpAny (model PG w) (ktrTop dp un gd cn cs L a ccd cl outer) (call (.ref 89) [.ref f, .int many tk]) Q E s := by
  refine Spec.use (draw_spec w f o many tk (news.filter fun p => decide (p.1 ≠ f)) ho (fun p hp => by simpa using (List.mem_filter.mp hp).2) h0 h1) B F X N T hk ?_ hdp (by omega) ?_
  · intro p hp
    rcases List.mem_cons.mp hp with rfl | hp
    · exact updF_mem U
    · exact (List.mem_filter.mp hp).1
  · (intro r l h' tk' F' N' h99; (with_reducible refine Mine.hide fun G9 hG9 => ?_); rcases h99 with ⟨⟨i, t, rfl, hi0, hi1⟩, o', ho', hl⟩ <;> (refine hG9 ?_; clear hG9 G9))
    exact ret i t o' h' tk' F' (news_updF U N' (hl _ (.head _)) fun p hp hne => hl _ (.tail _ (List.mem_filter.mpr ⟨hp, by simpa using hne⟩))) ho' hi0 hi1
end Mine
local macro_rules | `(tactic| walk_at "m:w4") => `(tactic| (k_here; (with_reducible show wpAny _ _ (call (Value.ref 89) [Value.ref _, Value.int _ _]) _ _ _); k_dflt (refine' Mine.draw_use ?k1 ?k2 ?k3 ?k4 ?k5 ?k6 ?k7 ?k8 ?k9 ?k10 ?k11 ?k12 ?_; (case k1 => k_asm); (case k2 => k_asm); (case k3 => k_asm); (case k4 => k_asm); (case k5 => k_asm); (case k6 => first | exact rfl | assumption); (case k7 => ktr_room); (case k8 => ktr_units); (case k9 => k_updF); (case k10 => assumption); (case k11 => omega); (case k12 => omega)); (intro i' t' o' h' tk' F' N' hF' hi0' hi1')))
local macro_rules | `(tactic| walk_at "call ref") => `(tactic| walk_at "m:w4")
section
local macro_rules | `(tactic| walk_at "m:none") => `(tactic| skip)
namespace Mine
def OkG (low many g : Int) : Prop := g = 2 ∨ (low - 1 ≤ g ∧ g ≤ low + many)
/-- ints that are goals -/
def Goals (low many : Int) (vs : List Value) : Prop := ∀ v ∈ vs, ∃ g t, v = .int g t ∧ OkG low many g
theorem Goals.push {low many : Int} {vs : List Value} {g : Int} {t : Tok} (h : Goals low many vs) (hg : OkG low many g) : Goals low many (vs ++ [.int g t]) := by
  intro v hv
  rcases List.mem_append.mp hv with h1 | h1
  · exact h v h1
  · rw [List.mem_singleton.mp h1]; exact ⟨g, t, rfl, hg⟩
theorem Goals.zero {low many : Int} {vs : List Value} (_h : Goals low many vs) (e : vs.length = 0) : vs = [] := List.eq_nil_of_length_eq_zero e
theorem Goals.succ {low many : Int} {vs : List Value} {n : Nat} (h : Goals low many vs) (e : vs.length = n + 1) : ∃ g t ws, vs = .int g t :: ws ∧ OkG low many g ∧ Goals low many ws ∧ ws.length = n := by
  cases vs with
  | nil => simp at e
  | cons v ws =>
    obtain ⟨g, t, rfl, hg⟩ := h v (.head _)
    exact ⟨g, t, ws, rfl, hg, fun u hu => h u (.tail _ hu), by simpa using e⟩
theorem okg_of {low many spot : Int} (h0 : 2 ≤ many) : OkG low many (low + Int.fmod (spot + 1) (many + 2) - 1) := by
  have h1 := Int.fmod_nonneg_of_pos (spot + 1) (show 0 < many + 2 by omega)
  have h2 := Int.fmod_lt_of_pos (spot + 1) (show 0 < many + 2 by omega)
  exact .inr ⟨by omega, by omega⟩
theorem my_item {prog : Program} {w : World} {A : Around} {E : Value → Shared → Prop} {s : Shared} {h₀ : Heap} {L l : Addr} {value slice : PySem.Expr} {news : Led} {vs : List Value} {n : Nat} {k : Int} {u : Tok} {Q : Value → Shared → Prop} (N : News h₀ L s.heap news) (hm : (l, listOf vs.toArray n) ∈ news)
    (h0 : 0 ≤ k) (h1 : k < (vs.length : Int)) (hfit : k < 2 ^ 63) (h : ∀ v, v ∈ vs → Q v s)
    (hs : subscripted slice false (.ref l) (.int k u) = operate [.ref l, .int k u] (getItem (.ref l) (.int k u)) := by with_unfolding_all rfl) :
    wpAny (model prog w) A (subscriptTail value slice (.ref l) (.int k u)) Q E s := by
  have hk : k.toNat < vs.length := by omega
  have hl : s.heap.IsList l vs.toArray := ⟨_, (N _ hm).1, rfl, n, rfl⟩
  refine tail_any hl.typeIs slot_list_getitem.lookup (wpAny_getItem_list hl h0 hfit (x := vs[k.toNat]) ?_ (h _ (List.getElem_mem hk))) hs
  simp [hk]
local macro_rules | `(tactic| walk_at "subscriptTail") => `(tactic| (k_here; (with_reducible show wpAny _ _ (subscriptTail _ (PySem.Expr.Call _ _ _ _) (Value.ref _) (Value.int _ _)) _ _ _); (with_unfolding_all refine' my_item ?k1 ?k2 ?k3 ?k4 ?k5 ?_ ?k7; (case k1 => k_asm); (case k2 => k_mem); (case k3 => assumption); (case k4 => assumption); (case k5 => omega); (case k7 => with_unfolding_all rfl); k_whole); intro v' hv'))
theorem ite_ieq {a b : Int} {p q : Prop} (h1 : a = b → p) (h2 : a ≠ b → q) : if (a == b) = true then p else q := by
  by_cases h : a = b
  · rw [if_pos (beq_iff_eq.mpr h)]; exact h1 h
  · rw [if_neg (by simp [h])]; exact h2 h
local macro_rules | `(tactic| walk_at "ite") => `(tactic| (with_reducible (show @ite _ (@Eq Bool (@BEq.beq _ _ _ _) true) _ _ _; refine Mine.Stop.out ?_)))
theorem drawn_spec (w : World) (f : Addr) (o : Obj) (low many : Int) (tl tm : Tok) (news : Led) (ho : Figs o) (hf : ∀ p ∈ news, p.1 ≠ f) (h0 : 2 ≤ many) (h1 : many ≤ 8) :
    Spec w 2 96 [.ref f, .int low tl, .int many tm] ((f, o) :: news) (fun x l => (∃ r, RowAt w l x r ∧ ∀ g ∈ r.goals, OkG low many g) ∧ ∃ o', Figs o' ∧ ∀ p ∈ (f, o') :: news, p ∈ l) := by
  unfold Spec
  intro mean mg mb dp un gd cn cs a ccd cl outer A₀ base h₀ L m s Q E B F X N T hk hdp hun hret
  (have _ : (PySem.Challenge.rw_sa0141_01 = PySem.Challenge.rw_sa0141_01) ∧ (HD.heap_39 = HD.heap_39) := by k_fill; exact ⟨rfl, rfl⟩)
  refine wpAny_call ?_
  k_dflt cell_enter
  k_steps
  rename_i kd tkd o1 _ _ ho1 hk0 hk1 _ _ _ lg _ hlg _ lt _ hlt _ _ _ _ _ _ hR F1 N1 hkeep
  have hfl : f ≠ lg := Nat.ne_of_lt hlg.1
  have hnl : ∀ p ∈ news, p.1 ≠ lg := lt_ne (allLt_lt hlg.2)
  have htab : ∃ n : Nat, n ≤ 4 ∧ (List.getD [0, 0, 1, 1, 1, 4, 2, 3, 0] (Int.toNat kd) 0 : Int) = (n : Int) ∧ [0, 0, 1, 1, 1, 4, 2, 3, 0][kd.toNat]? = some n := by
    have : kd = 0 ∨ kd = 1 ∨ kd = 2 ∨ kd = 3 ∨ kd = 4 ∨ kd = 5 ∨ kd = 6 ∨ kd = 7 ∨ kd = 8 := by omega
    rcases this with rfl | rfl | rfl | rfl | rfl | rfl | rfl | rfl | rfl
    · exact ⟨0, by decide, by decide, by decide⟩
    · exact ⟨0, by decide, by decide, by decide⟩
    · exact ⟨1, by decide, by decide, by decide⟩
    · exact ⟨1, by decide, by decide, by decide⟩
    · exact ⟨1, by decide, by decide, by decide⟩
    · exact ⟨4, by decide, by decide, by decide⟩
    · exact ⟨2, by decide, by decide, by decide⟩
    · exact ⟨3, by decide, by decide, by decide⟩
    · exact ⟨0, by decide, by decide, by decide⟩
  ((with_reducible refine Mine.hide fun G9 hG9 => ?_); obtain ⟨nt, hnt, hR1, htab⟩ := htab; refine hG9 ?_; clear hG9 G9)
  refine range_loop (n := nt) (fun i m nx => ∃ o2 vs k, nx = (lg, listOf vs.toArray k) :: (f, o2) :: news ∧ Figs o2 ∧ vs.length = i ∧ Goals low many vs ∧
    Vars m [(Str.ofString "figures", .ref f), (Str.ofString "low", .int low tl), (Str.ofString "many", .int many tm), (Str.ofString "goals", .ref lg), (Str.ofString "kind", .int kd tkd)]) rfl hR hR1 (by omega) F1 (fun p hp => N1 p (.tail _ hp)) ?j ?turn ?done
  case j => exact ⟨o1, [], 0, rfl, ho1, rfl, (fun v hv => nomatch hv), rfl, rfl, rfl, rfl, rfl, trivial⟩
  case turn =>
    (intro i t m₁ nx h tk own hi hoff h99 F2 N2; (with_reducible refine Mine.hide fun G9 hG9 => ?_); rcases h99 with ⟨o2, vs, k, rfl, ho2, hlen, hG, V⟩ <;> (refine hG9 ?_; clear hG9 G9))
    have F3 := Fr.vars V F2
    have N3 : News _ _ h ((lg, listOf vs.toArray k) :: (f, o2) :: (news ++ own)) := N2
    have e1 : ∀ p ∈ news ++ own, p.1 ≠ f := fun p hp => (List.mem_append.mp hp).elim (hf p) fun hp => hoff p hp f (by simp)
    have e2 : ∀ p ∈ news ++ own, p.1 ≠ lg := fun p hp => (List.mem_append.mp hp).elim (hnl p) fun hp => hoff p hp lg (by simp)
    clear F2 N2 F1 N1
    k_steps
    refine Stop.mk (ite_ieq (fun _ => ?_) (fun _ => ?_))
    · k_steps
      rename Fr _ _ _ _ => F9
      rename News _ _ _ _ => N9
      rw [List.push_toArray] at N9
      refine InvEndG.intro (nx := (lg, _) :: (f, _) :: news) F9 N9 ?_ ?_ (sub_cons (sub_cons sub_left)) (sub_tail (sub_tail sub_right))
      · exact ⟨_, vs ++ [_], _, rfl, (by assumption), by simp [hlen], hG.push (.inl rfl), rfl, rfl, rfl, rfl, rfl, trivial⟩
      · exact hoff
    · k_steps
      rename Fr _ _ _ _ => F9
      rename News _ _ _ _ => N9
      rw [List.push_toArray] at N9
      refine InvEndG.intro (nx := (lg, _) :: (f, _) :: news) F9 N9 ?_ ?_ (sub_cons (sub_cons sub_left)) (sub_tail (sub_tail sub_right))
      · exact ⟨_, vs ++ [_], _, rfl, (by assumption), by simp [hlen], hG.push (okg_of h0), rfl, rfl, rfl, rfl, rfl, trivial⟩
      · exact hoff
  case done =>
    (intro m₁ nx h tk h99 F2 N2; (with_reducible refine Mine.hide fun G9 hG9 => ?_); rcases h99 with ⟨o2, vs, k, rfl, ho2, hlen, hG, V⟩ <;> (refine hG9 ?_; clear hG9 G9))
    have F3 := Fr.vars' V F2
    have hlt2 : ∀ p ∈ (lg, listOf vs.toArray k) :: (f, o2) :: news, p.1 < h.objs.size := fun p hp => Heap.lt_size (N2 p hp).1
    clear F2 F1 N1
    k_steps
    refine Stop.mk (ite_ieq (fun hkd => ?_) (fun hkd0 => ?_))
    · subst hkd
      cases (Option.some.inj htab : 0 = nt)
      cases hG.zero hlen
      k_steps
      rename _ ∈ _ => hv
      simp only [List.mem_cons, List.not_mem_nil, or_false] at hv
      refine hret _ _ _ _ (by k_asm) (by k_asm) ⟨?_, _, by assumption, by walk_at "m:sub"⟩
      rcases hv with rfl | rfl | rfl
      · exact ⟨_, RowAt.cut (by k_mem), fun g hg => nomatch hg⟩
      · exact ⟨_, RowAt.call (by k_mem), fun g hg => nomatch hg⟩
      · exact ⟨_, RowAt.glist (by k_mem) (by k_mem), fun g hg => nomatch hg⟩
    k_steps
    refine Stop.mk (ite_ieq (fun hkd => ?_) (fun hkd1 => ?_))
    · subst hkd
      cases (Option.some.inj htab : 0 = nt)
      cases hG.zero hlen
      k_steps
      rename _ ∈ _ => hv
      simp only [List.mem_cons, List.not_mem_nil, or_false] at hv
      refine hret _ _ _ _ (by k_asm) (by k_asm) ⟨?_, _, by assumption, by walk_at "m:sub"⟩
      rcases hv with rfl | rfl | rfl | rfl | rfl | rfl | rfl
      · exact ⟨_, RowAt.proceed (by k_mem), fun g hg => nomatch hg⟩
      · exact ⟨_, RowAt.execute (by k_mem), fun g hg => nomatch hg⟩
      · exact ⟨_, RowAt.fail (by k_mem), fun g hg => nomatch hg⟩
      · exact ⟨_, RowAt.halt (by k_mem), fun g hg => nomatch hg⟩
      · exact ⟨_, RowAt.mcall (by k_mem), fun g hg => nomatch hg⟩
      · exact ⟨_, RowAt.cfail (by k_mem), fun g hg => nomatch hg⟩
      · exact ⟨_, RowAt.dyn (by k_mem), fun g hg => nomatch hg⟩
    k_steps
    refine Stop.mk (ite_ieq (fun hkd => ?_) (fun hkd2 => ?_))
    · subst hkd
      cases (Option.some.inj htab : 1 = nt)
      ((with_reducible refine Mine.hide fun G9 hG9 => ?_); obtain ⟨g, t, ws, rfl, hg, hG, hlen⟩ := hG.succ hlen; refine hG9 ?_; clear hG9 G9)
      cases hG.zero hlen
      k_steps
      exact hret _ _ _ _ (by k_asm) (by k_asm) ⟨⟨_, RowAt.tryR (by k_mem), by intro g hg; rw [List.mem_singleton.mp hg]; assumption⟩, _, by assumption, by walk_at "m:sub"⟩
    k_steps
    refine Stop.mk (ite_ieq (fun hkd => ?_) (fun hkd3 => ?_))
    · subst hkd
      cases (Option.some.inj htab : 1 = nt)
      ((with_reducible refine Mine.hide fun G9 hG9 => ?_); obtain ⟨g, t, ws, rfl, hg, hG, hlen⟩ := hG.succ hlen; refine hG9 ?_; clear hG9 G9)
      cases hG.zero hlen
      k_steps
      exact hret _ _ _ _ (by k_asm) (by k_asm) ⟨⟨_, RowAt.retry (by k_mem), by intro g hg; rw [List.mem_singleton.mp hg]; assumption⟩, _, by assumption, by walk_at "m:sub"⟩
    k_steps
    refine Stop.mk (ite_ieq (fun hkd => ?_) (fun hkd4 => ?_))
    · subst hkd
      cases (Option.some.inj htab : 1 = nt)
      ((with_reducible refine Mine.hide fun G9 hG9 => ?_); obtain ⟨g, t, ws, rfl, hg, hG, hlen⟩ := hG.succ hlen; refine hG9 ?_; clear hG9 G9)
      cases hG.zero hlen
      k_steps
      exact hret _ _ _ _ (by k_asm) (by k_asm) ⟨⟨_, RowAt.trust (by k_mem), by intro g hg; rw [List.mem_singleton.mp hg]; assumption⟩, _, by assumption, by walk_at "m:sub"⟩
    k_steps
    refine Stop.mk (ite_ieq (fun hkd => ?_) (fun hkd5 => ?_))
    · subst hkd
      cases (Option.some.inj htab : 4 = nt)
      ((with_reducible refine Mine.hide fun G9 hG9 => ?_); obtain ⟨g0, t0, ws0, rfl, hg0, hG, hlen⟩ := hG.succ hlen; refine hG9 ?_; clear hG9 G9)
      ((with_reducible refine Mine.hide fun G9 hG9 => ?_); obtain ⟨g1, t1, ws1, rfl, hg1, hG, hlen⟩ := hG.succ hlen; refine hG9 ?_; clear hG9 G9)
      ((with_reducible refine Mine.hide fun G9 hG9 => ?_); obtain ⟨g2, t2, ws2, rfl, hg2, hG, hlen⟩ := hG.succ hlen; refine hG9 ?_; clear hG9 G9)
      ((with_reducible refine Mine.hide fun G9 hG9 => ?_); obtain ⟨g3, t3, ws3, rfl, hg3, hG, hlen⟩ := hG.succ hlen; refine hG9 ?_; clear hG9 G9)
      cases hG.zero hlen
      k_steps
      exact hret _ _ _ _ (by k_asm) (by k_asm) ⟨⟨_, RowAt.sot (by k_mem), by intro g hg; simp only [RowD.goals, List.mem_cons, List.not_mem_nil, or_false] at hg; rcases hg with rfl | rfl | rfl | rfl <;> assumption⟩, _, by assumption, by walk_at "m:sub"⟩
    k_steps
    refine Stop.mk (ite_ieq (fun hkd => ?_) (fun hkd6 => ?_))
    · subst hkd
      cases (Option.some.inj htab : 2 = nt)
      ((with_reducible refine Mine.hide fun G9 hG9 => ?_); obtain ⟨g0, t0, ws0, rfl, hg0, hG, hlen⟩ := hG.succ hlen; refine hG9 ?_; clear hG9 G9)
      ((with_reducible refine Mine.hide fun G9 hG9 => ?_); obtain ⟨g1, t1, ws1, rfl, hg1, hG, hlen⟩ := hG.succ hlen; refine hG9 ?_; clear hG9 G9)
      cases hG.zero hlen
      k_steps
      exact hret _ _ _ _ (by k_asm) (by k_asm) ⟨⟨_, RowAt.sos (by k_mem) (by k_mem) (by assumption) (by assumption), by intro g hg; simp only [RowD.goals, List.mem_cons, List.not_mem_nil, or_false] at hg; rcases hg with rfl | rfl <;> assumption⟩, _, by assumption, by walk_at "m:sub"⟩
    k_steps
    refine Stop.mk (ite_ieq (fun hkd => ?_) (fun hkd7 => ?_))
    · subst hkd
      cases (Option.some.inj htab : 3 = nt)
      ((with_reducible refine Mine.hide fun G9 hG9 => ?_); obtain ⟨g0, t0, ws0, rfl, hg0, hG, hlen⟩ := hG.succ hlen; refine hG9 ?_; clear hG9 G9)
      ((with_reducible refine Mine.hide fun G9 hG9 => ?_); obtain ⟨g1, t1, ws1, rfl, hg1, hG, hlen⟩ := hG.succ hlen; refine hG9 ?_; clear hG9 G9)
      ((with_reducible refine Mine.hide fun G9 hG9 => ?_); obtain ⟨g2, t2, ws2, rfl, hg2, hG, hlen⟩ := hG.succ hlen; refine hG9 ?_; clear hG9 G9)
      cases hG.zero hlen
      k_steps
      rename_i l3 l4 hF hN hT hS
      have hin : ∀ p ∈ (lg, listOf [Value.int g0 t0, Value.int g1 t1, Value.int g2 t2].toArray k) :: (f, o2) :: news, p ∈ l3 := fun p hp => hS p (.tail _ (.tail _ (.tail _ hp))) (Nat.ne_of_lt (hlt2 p hp))
      have hN4 : News _ _ _ ((lg, listOf [Value.int g0 t0, Value.int g1 t1, Value.int g2 t2].toArray k) :: l3) := fun p hp => (List.mem_cons.mp hp).elim (fun e => e ▸ hN _ (hin _ (.head _))) (hN p)
      clear hN
      k_steps
      exact hret _ _ _ _ (by k_asm) (by k_asm) ⟨⟨_, RowAt.soc (by k_mem) (TupTab.cons (TupTab.cons hT _) _), by intro g hg; simp only [RowD.goals, List.mem_cons, List.not_mem_nil, or_false] at hg; rcases hg with rfl | rfl | rfl <;> assumption⟩, _, ho2, fun p hp => .tail _ (.tail _ (hin p (.tail _ hp)))⟩
    k_steps
    obtain rfl : kd = 8 := by omega
    cases (Option.some.inj htab : 0 = nt)
    cases hG.zero hlen
    k_steps
    exact hret _ _ _ _ (by k_asm) (by k_asm) ⟨⟨_, RowAt.push (by k_mem), fun g hg => nomatch hg⟩, _, by assumption, by walk_at "m:sub"⟩
end Mine
end
section
open PySem.Calls
namespace Mine
/-- a dict of any keys, told by its entries -/
def EsAt (h : Heap) (d : Addr) (es : Array DictEntry) (ep : Nat) : Prop := ∃ o, h.get? d = some o ∧ o.ExactDict ∧ o.data = .dict es ep
theorem EsAt.at {h h' : Heap} {d : Addr} {es : Array DictEntry} {ep : Nat} (x : EsAt h d es ep) (k : ∀ o, h.get? d = some o → h'.get? d = some o) : EsAt h' d es ep :=
  let ⟨o, ho, r⟩ := x; ⟨o, k _ ho, r⟩
theorem EsAt.type {s : Shared} {d : Addr} {es : Array DictEntry} {ep : Nat} (x : EsAt s.heap d es ep) : s.TypeIs (.ref d) "dict" := let ⟨o, ho, hc, _⟩ := x; ⟨o, ho, hc.1⟩
theorem EsAt.lt {h : Heap} {d : Addr} {es : Array DictEntry} {ep : Nat} (x : EsAt h d es ep) : d < h.objs.size := let ⟨_, ho, _⟩ := x; Heap.lt_size ho
section
variable {prog : Program} {w : World} {A : Around} {E : Value → Shared → Prop} {s : Shared} {d it : Addr} {es : Array DictEntry} {ep i : Nat}
theorem es_iter {Q : Value → Shared → Prop} (lo : (d == sysModules) = false) (x : EsAt s.heap d es ep)
    (h : Q (.ref s.heap.objs.size) { s with heap := s.heap.push { cls := .type "dict_keyiterator", data := .fields #[.ref d, .int 0 0, .int es.size 0, .int ep 0] } }) :
    wpAny (model prog w) A (pyIter (.ref d)) Q E s := by
  obtain ⟨o, ho, hc, hdat⟩ := id x
  refine wpAny_pyIter_slot x.type F.slot_dict_iter (wpAny_call_entry F.slot_dict_iter x.type F.entry_dict_iter ?_ (F.args_dict_iter_1 _))
  unfold Builtin.«dict.__iter__» Builtin.Dict.dictSlotNone
  refine wpAny_bind (wpAny_bind (wpAny_notOrdered_dict x.type (wpAny_pure ?_)))
  show wpAny _ _ (Builtin.Dict.showsAll d >>= _) _ _ s
  unfold Builtin.Dict.showsAll
  rw [if_neg (by rw [lo]; exact Bool.false_ne_true)]
  refine wpAny_bind (wpAny_pure (wpAny_bind (wpAny_dictEntries ho hdat (wpAny_bind (wpAny_dictEpoch ho hdat ?_)))))
  refine wpAny_bind (wpAny_newObj_type (wpAny_pure ⟨_, rfl, "dict_keyiterator", _, ⟨_, Heap.get?_push_size _ rfl, rfl⟩, F.slot_dict_keyiterator_next.lookup, ?_⟩))
  simpa [rawInt] using h
theorem es_step {Q : Option Value → Shared → Prop} (hit : s.heap.IsKeyIter it d i es.size ep) (x : EsAt s.heap d es ep) (hi : i < es.size)
    (h : ∀ h', h'.IsKeyIter it d (i + 1) es.size ep → Heap.SameBut it s.heap h' → Q (some es[i].key) { s with heap := h' }) :
    wpAny (model prog w) A (pyNext (.ref it)) Q E s := by
  obtain ⟨o, ho, hc, hd⟩ := id hit
  obtain ⟨od, hod, hcd, hdd⟩ := id x
  unfold pyNext
  refine wpAny_bind (wpAny_attempt (wpAny_callSpecial?_slot (name := Str.ofString "__next__") hit.typeIs F.slot_dict_keyiterator_next
    (wpAny_call_entry F.slot_dict_keyiterator_next hit.typeIs F.entry_dict_keyiterator_next ?_ (F.args_dict_keyiterator_next_1 _))))
  refine wpAny_bind (wpAny_pure (wpAny_bind (wpAny_bind ?_)))
  first | refine wpAny_bind (wpAny_typeNameOfWhole_keyiter hit.typeIs (wpAny_pure ?_)) | refine wpAny_bind (wpAny_typeNameOf_keyiter hit.typeIs (wpAny_pure ?_))
  refine wpAny_bind (wpAny_fieldsOf ho hd ?_)
  simp only [show Builtin.Dict_items.ownsTuple "dict_keyiterator" = false from by decide, Bool.false_eq_true, if_false]
  show wpAny _ _ (if (Value.ref d == Value.none) = true then _ else _) _ _ s
  rw [if_neg (show ¬ ((Value.ref d == Value.none) = true) from Bool.false_ne_true)]
  refine wpAny_bind (wpAny_pure (wpAny_bind (wpAny_dictEntries hod hdd ?_)))
  rw [if_neg (by simp)]
  refine wpAny_bind (wpAny_pure (wpAny_bind (wpAny_dictEpoch hod hdd ?_)))
  rw [if_neg (by simp)]
  refine wpAny_pure ?_
  simp only [show ¬ ((i : Int) < 0) from by omega, if_false, Int.toNat_natCast, Array.getElem?_eq_getElem hi]
  refine wpAny_bind ?_
  first | refine wpAny_bind (wpAny_typeNameOfWhole_keyiter hit.typeIs (wpAny_pure ?_)) | refine wpAny_bind (wpAny_typeNameOf_keyiter hit.typeIs (wpAny_pure ?_))
  refine wpAny_bind (wpAny_isOneOf_keyiter hit.typeIs ?_)
  show wpAny _ _ (setField (.ref it) 1 (rawInt ((i : Int) + 1)) >>= _) _ _ s
  refine wpAny_bind (wpAny_setField ho hd (by simp) ?_)
  have hit' : (s.heap.update it (Obj.mapFields (·.setIfInBounds 1 (rawInt ((i : Int) + 1))))).IsKeyIter it d (i + 1) es.size ep :=
    ⟨_, Heap.get?_update_self _ ho (Obj.isFreed_of_fields (Obj.data_mapFields hd _)), (Obj.cls_mapFields ..).trans hc, by rw [Obj.data_mapFields hd]; simp [rawInt]⟩
  refine wpAny_bind (wpAny_holding ?_)
  refine wpAny_bind (wpAny_isOneOf_keyiter (s := { s with heap := s.heap.update it (Obj.mapFields (·.setIfInBounds 1 (rawInt ((i : Int) + 1)))) }) hit'.typeIs ?_)
  show wpAny _ _ (pure es[i].key) _ _ _
  exact wpAny_pure (wpAny_pure ⟨_, rfl, wpAny_pure (h _ hit' (Heap.SameBut.update ..))⟩)
theorem es_stop {Q : Option Value → Shared → Prop} (hh : A.handled = none) (hit : s.heap.IsKeyIter it d es.size es.size ep) (x : EsAt s.heap d es ep)
    (h : ∀ h', Heap.ExtBut it s.heap h' → Q none { s with heap := h' }) : wpAny (model prog w) A (pyNext (.ref it)) Q E s := by
  obtain ⟨o, ho, hc, hd⟩ := id hit
  obtain ⟨od, hod, hcd, hdd⟩ := id x
  unfold pyNext
  refine wpAny_bind (wpAny_attempt (wpAny_callSpecial?_slot (name := Str.ofString "__next__") hit.typeIs F.slot_dict_keyiterator_next
    (wpAny_call_entry F.slot_dict_keyiterator_next hit.typeIs F.entry_dict_keyiterator_next ?_ (F.args_dict_keyiterator_next_1 _))))
  refine wpAny_bind (wpAny_pure (wpAny_bind (wpAny_bind ?_)))
  first | refine wpAny_bind (wpAny_typeNameOfWhole_keyiter hit.typeIs (wpAny_pure ?_)) | refine wpAny_bind (wpAny_typeNameOf_keyiter hit.typeIs (wpAny_pure ?_))
  refine wpAny_bind (wpAny_fieldsOf ho hd ?_)
  simp only [show Builtin.Dict_items.ownsTuple "dict_keyiterator" = false from by decide, Bool.false_eq_true, if_false]
  show wpAny _ _ (if (Value.ref d == Value.none) = true then _ else _) _ _ s
  rw [if_neg (show ¬ ((Value.ref d == Value.none) = true) from Bool.false_ne_true)]
  refine wpAny_bind (wpAny_pure (wpAny_bind (wpAny_dictEntries hod hdd ?_)))
  rw [if_neg (by simp)]
  refine wpAny_bind (wpAny_pure (wpAny_bind (wpAny_dictEpoch hod hdd ?_)))
  rw [if_neg (by simp)]
  refine wpAny_pure ?_
  simp only [show ¬ ((es.size : Int) < 0) from by omega, if_false, Int.toNat_natCast, Array.getElem?_eq_none (Nat.le_refl es.size)]
  refine wpAny_bind ?_
  first | refine wpAny_bind (wpAny_typeNameOfWhole_keyiter hit.typeIs (wpAny_pure ?_)) | refine wpAny_bind (wpAny_typeNameOf_keyiter hit.typeIs (wpAny_pure ?_))
  show wpAny _ _ (setField (.ref it) 0 .none >>= _) _ _ s
  refine wpAny_bind (wpAny_setField ho hd (by simp) ?_)
  show wpAny _ _ (newExc (.type "StopIteration") [] >>= _) _ _ _
  refine wpAny_bind ?_
  simp only [newExc, newTuple]
  refine wpAny_bind (wpAny_newObj_type ?_ (by size_fits))
  refine wpAny_bind (m := firstArgMember _ _) (wpAny_of_eq (a := Value.none) (by first | rfl | (simp only [firstArgMember]; rfl)) ?_)
  refine wpAny_newObj_type ?_ (by size_fits)
  simp only [raiseNew]
  refine wpAny_bind (wpAny_handled ?_)
  rw [show A.in1.handled = none from hh]
  refine wpAny_bind (wpAny_pure (wpAny_throw ?_))
  refine wpAny_bind (wpAny_isInstance (T := "StopIteration") (b := true) ⟨_, Heap.get?_push_size _ rfl, rfl⟩ isSubtype_stop ?_)
  exact wpAny_pure (h _ (((Heap.SameBut.update ..).extBut.push _).push _))
theorem es_walks (hh : A.handled = none) (I : Addr) (hne : d ≠ I) :
    Walks prog w A I [I, d] [I] es.size (fun i v => ∃ e, es[i]? = some e ∧ v = e.key) (fun i h => h.IsKeyIter I d i es.size ep ∧ EsAt h d es ep) where
  sub := fun b hb => by simp at hb; simp [hb]
  frame := fun _ _ _ st hk => ⟨st.1.at fun o e => hk I (by simp) o e, st.2.at fun o e => hk d (by simp) o e⟩
  item := fun i s Q E hi st hQ => by
    refine es_step st.1 st.2 hi fun h' hit' hs' => ?_
    exact hQ _ h' s.toks ⟨es[i], by simp [hi], rfl⟩ ⟨hit', st.2.at fun o e => hs'.extBut d o hne e⟩ fun b o hb e => hs'.extBut b o (fun h => hb (by simp [h])) e
  done := fun s Q E st hQ => es_stop hh st.1 st.2 fun h' he' => hQ h' s.toks fun b o hb e => he' b o (fun h => hb (by simp [h])) e
  self := fun _ _ _ _ st hQ => wpAny_pyIter_keyiter st.1 hQ
end
section
variable {prog : Program} {w : World} {A : Around} {E : Value → Shared → Prop} {s : Shared} {env : Env} {h₀ : Heap} {x : Str} {body : List Stmt} {Q : Flow → Shared → Prop}
/-- for x in a dict of the ledger (its keys), that the turns leave as it is -/
theorem dict_loop {d : Addr} {o : Obj} {es : Array DictEntry} {ep : Nat} {m₀ : Str → Option Value} {news : Led} (J : Nat → (Str → Option Value) → Led → Prop)
    (hh : A.handled = none) (F : Fr h₀ env.locals s.heap m₀) (N : News h₀ env.locals s.heap news) (hd : (d, o) ∈ news) (he : o.ExactDict) (hda : o.data = .dict es ep) (lo : (d == sysModules) = false) (hj : J 0 m₀ news)
    (turn : ∀ i e m₁ nx h tk own, es[i]? = some e → OwnOff own (nx.map (·.1)) → (d, o) ∈ nx → J i m₁ nx → Fr h₀ env.locals h (fun y => if y = x then some e.key else m₁ y) → News h₀ env.locals h (nx ++ own) →
      wpAny (model prog w) A (execs body env) (InvPostG h₀ env.locals (fun m' nx => (d, o) ∈ nx ∧ J (i + 1) m' nx) own { s with heap := h, toks := tk } Q) E { s with heap := h, toks := tk })
    (done : ∀ m₁ nx h tk, J es.size m₁ nx → Fr h₀ env.locals h m₁ → News h₀ env.locals h nx → Q .next { s with heap := h, toks := tk }) :
    Stop (wpAny (model prog w) A (pyIter (.ref d)) (fun it s₂ => LoopAtV prog w A h₀ env x body Q E it s₂) E s) := by
  refine Stop.mk ?_
  have hod : s.heap.get? d = some o := (N _ hd).1
  have X : EsAt s.heap d es ep := ⟨o, hod, he, hda⟩
  have hne : d ≠ s.heap.objs.size := Nat.ne_of_lt (Heap.lt_size hod)
  refine es_iter lo X ?_
  have W := es_walks (prog := prog) (w := w) (es := es) (ep := ep) hh s.heap.objs.size hne
  refine ⟨_, _, _, es.size, _, _, m₀, news, (fun i m nx => (d, o) ∈ nx ∧ J i m nx), rfl, W, ?_, ?_, ?_, ⟨⟨_, Heap.get?_push_size _ rfl, rfl, rfl⟩, X.at fun o e => Heap.get?_push_of_some _ e⟩, F.push _, (fun p hp => ⟨Heap.get?_push_of_some _ (N p hp).1, (N p hp).2⟩), ⟨hd, hj⟩, ?_, ?_⟩
  · intro hm
    rcases List.mem_cons.mp hm with e | hm
    · exact absurd F.ns.lt (e ▸ Nat.lt_irrefl _)
    · exact (N _ hd).2.1 ((List.mem_singleton.mp hm).symm)
  · intro b hb
    rw [List.mem_singleton.mp hb]
    exact next_is_new F
  · intro p hp hI
    exact absurd (Heap.lt_size (N p hp).1) ((List.mem_singleton.mp hI) ▸ Nat.lt_irrefl _)
  · rintro i v m₁ nx s₁ own ⟨hh', tk', rfl⟩ hin ⟨e, hei, rfl⟩ ⟨hd₁, hJ⟩ hoff hown hget hfp hst F₁ N₁
    have hI0 : h₀.get? s.heap.objs.size = none := next_is_new F
    obtain ⟨⟨oI, hoI, _⟩, _⟩ := id hst
    have hIown : (s.heap.objs.size, oI) ∈ own.filter fun p => decide (p.1 = s.heap.objs.size) := List.mem_filter.mpr ⟨hfp _ (List.mem_cons.mpr (.inl rfl)) hI0 _ hoI, by simp⟩
    have hsep : OwnOff (own.filter fun p => decide (p.1 = s.heap.objs.size)) (nx.map (·.1)) := by
      intro p hp b hb e
      obtain ⟨q, hq, rfl⟩ := List.mem_map.mp hb
      have h1 : p.1 = s.heap.objs.size := by simpa using (List.mem_filter.mp hp).2
      exact hoff q hq (List.mem_singleton.mpr (e ▸ h1))
    have N₂ : News h₀ env.locals hh' (nx ++ own.filter fun p => decide (p.1 = s.heap.objs.size)) := fun p hp => N₁ p ((List.mem_append.mp hp).elim (fun h => List.mem_append.mpr (.inr h)) fun h => List.mem_append.mpr (.inl ((List.mem_filter.mp h).1)))
    have hlo : hh'.get? d = some o := (N₁ _ (List.mem_append.mpr (.inr hd₁))).1
    refine wpAny_mono (turn i e m₁ nx hh' tk' _ hei hsep hd₁ hJ F₁ N₂) (fun f s₂ p => ?_) fun _ _ e => e
    have fin : InvEndG h₀ env.locals (fun m' nx => (d, o) ∈ nx ∧ J (i + 1) m' nx) (own.filter fun p => decide (p.1 = s.heap.objs.size)) { s with heap := hh', toks := tk' } s₂ →
        LoopStepU h₀ env.locals [s.heap.objs.size] own (fun m nx => (d, o) ∈ nx ∧ J (i + 1) m nx) { s with heap := hh', toks := tk' } .next s₂ := by
      rintro ⟨h', tk, m', news', nx', e', F', N', hn, ho', ha, hm⟩
      refine ⟨rfl, h', tk, m', nx', e', F', fun p hp => ?_, fun p hp hq => ?_, hm⟩
      · rcases List.mem_append.mp hp with h | h
        · by_cases hI : p.1 = s.heap.objs.size
          · exact N' p (ho' p (List.mem_filter.mpr ⟨h, by simpa using hI⟩))
          · have h1 : p.1 = d := by
              rcases List.mem_cons.mp (hown p h) with h2 | h2
              · exact absurd h2 hI
              · exact List.mem_singleton.mp h2
            have h2 : hh'.get? p.1 = some p.2 := hget p h
            rw [h1, hlo] at h2
            have h3 : p = (d, o) := Prod.ext h1 (Option.some.inj h2).symm
            rw [h3]
            exact N' _ (hn _ hm.1)
        · exact N' p (hn p h)
      · exact ha _ hIown p.1 (List.mem_map.mpr ⟨p, hp, rfl⟩) (List.mem_singleton.mp hq).symm
    cases f with
    | ret v => exact .ret p
    | brk => exact .brk p
    | next => exact .next (fin p)
    | cont => exact .cont (fin p)
  · rintro h' tk m' news' F' N' _ ⟨_, hJ⟩
    exact done m' news' h' tk hJ F' N'
end
end Mine
end
section
open PySem.Calls
namespace Mine
section
variable {prog : Program} {w : World} {A : Around} {E : Value → Shared → Prop} {s : Shared} {d it v : Addr} {es : Array DictEntry} {ep i : Nat}
theorem ev_iter {Q : Value → Shared → Prop} (hv : s.heap.IsValuesView v d) (x : EsAt s.heap d es ep)
    (h : Q (.ref s.heap.objs.size) { s with heap := s.heap.push { cls := .type "dict_valueiterator", data := .fields #[.ref d, .int 0 0, .int es.size 0, .int ep 0] } }) :
    wpAny (model prog w) A (pyIter (.ref v)) Q E s := by
  obtain ⟨ov, hov, hcv, hdv⟩ := id hv
  obtain ⟨o, ho, hc, hdat⟩ := id x
  refine wpAny_pyIter_slot hv.typeIs F.slot_dict_values_iter (wpAny_call_entry F.slot_dict_values_iter hv.typeIs F.entry_dict_values_iter ?_ (F.args_dict_values_iter_1 _))
  unfold Builtin.«dict_values.__iter__»
  refine wpAny_bind (wpAny_pure (wpAny_bind ?_))
  unfold Builtin.Dict_items.dictOf
  refine wpAny_bind (wpAny_field hov hdv (x := .ref d) rfl (wpAny_pure (wpAny_bind ?_)))
  unfold Builtin.Dict_items.newIterator
  refine wpAny_bind (wpAny_dictEntries ho hdat (wpAny_bind (wpAny_dictEpoch ho hdat ?_)))
  simp only [show Builtin.Dict_items.ownsTuple "dict_valueiterator" = false from by decide, Bool.false_eq_true, if_false]
  refine wpAny_newObj_type (wpAny_pure ⟨_, rfl, "dict_valueiterator", _, ⟨_, Heap.get?_push_size _ rfl, rfl⟩, F.slot_dict_valueiterator_next.lookup, ?_⟩)
  simpa [rawInt] using h
theorem ev_step {Q : Option Value → Shared → Prop} (hit : s.heap.IsValIter it d i es.size ep) (x : EsAt s.heap d es ep) (hi : i < es.size)
    (h : ∀ h', h'.IsValIter it d (i + 1) es.size ep → Heap.SameBut it s.heap h' → Q (some es[i].val) { s with heap := h' }) :
    wpAny (model prog w) A (pyNext (.ref it)) Q E s := by
  obtain ⟨o, ho, hc, hd⟩ := id hit
  obtain ⟨od, hod, hcd, hdd⟩ := id x
  unfold pyNext
  refine wpAny_bind (wpAny_attempt (wpAny_callSpecial?_slot (name := Str.ofString "__next__") hit.typeIs F.slot_dict_valueiterator_next
    (wpAny_call_entry F.slot_dict_valueiterator_next hit.typeIs F.entry_dict_valueiterator_next ?_ (F.args_dict_valueiterator_next_1 _))))
  refine wpAny_bind (wpAny_pure (wpAny_bind (wpAny_bind ?_)))
  first | refine wpAny_bind (wpAny_typeNameOfWhole_valiter hit.typeIs (wpAny_pure ?_)) | refine wpAny_bind (wpAny_typeNameOf_valiter hit.typeIs (wpAny_pure ?_))
  refine wpAny_bind (wpAny_fieldsOf ho hd ?_)
  simp only [show Builtin.Dict_items.ownsTuple "dict_valueiterator" = false from by decide, Bool.false_eq_true, if_false]
  show wpAny _ _ (if (Value.ref d == Value.none) = true then _ else _) _ _ s
  rw [if_neg (show ¬ ((Value.ref d == Value.none) = true) from Bool.false_ne_true)]
  refine wpAny_bind (wpAny_pure (wpAny_bind (wpAny_dictEntries hod hdd ?_)))
  rw [if_neg (by simp)]
  refine wpAny_bind (wpAny_pure (wpAny_bind (wpAny_dictEpoch hod hdd ?_)))
  rw [if_neg (by simp)]
  refine wpAny_pure ?_
  simp only [show ¬ ((i : Int) < 0) from by omega, if_false, Int.toNat_natCast, Array.getElem?_eq_getElem hi]
  refine wpAny_bind ?_
  first | refine wpAny_bind (wpAny_typeNameOfWhole_valiter hit.typeIs (wpAny_pure ?_)) | refine wpAny_bind (wpAny_typeNameOf_valiter hit.typeIs (wpAny_pure ?_))
  refine wpAny_bind (wpAny_isOneOf_valiter hit.typeIs ?_)
  show wpAny _ _ (setField (.ref it) 1 (rawInt ((i : Int) + 1)) >>= _) _ _ s
  refine wpAny_bind (wpAny_setField ho hd (by simp) ?_)
  have hit' : (s.heap.update it (Obj.mapFields (·.setIfInBounds 1 (rawInt ((i : Int) + 1))))).IsValIter it d (i + 1) es.size ep :=
    ⟨_, Heap.get?_update_self _ ho (Obj.isFreed_of_fields (Obj.data_mapFields hd _)), (Obj.cls_mapFields ..).trans hc, by rw [Obj.data_mapFields hd]; simp [rawInt]⟩
  refine wpAny_bind (wpAny_holding ?_)
  refine wpAny_bind (wpAny_isOneOf_valiter (s := { s with heap := s.heap.update it (Obj.mapFields (·.setIfInBounds 1 (rawInt ((i : Int) + 1)))) }) hit'.typeIs ?_)
  refine wpAny_bind (wpAny_isOneOf_valiter (s := { s with heap := s.heap.update it (Obj.mapFields (·.setIfInBounds 1 (rawInt ((i : Int) + 1)))) }) hit'.typeIs ?_)
  show wpAny _ _ (pure es[i].val) _ _ _
  exact wpAny_pure (wpAny_pure ⟨_, rfl, wpAny_pure (h _ hit' (Heap.SameBut.update ..))⟩)
theorem ev_stop {Q : Option Value → Shared → Prop} (hh : A.handled = none) (hit : s.heap.IsValIter it d es.size es.size ep) (x : EsAt s.heap d es ep)
    (h : ∀ h', Heap.ExtBut it s.heap h' → Q none { s with heap := h' }) : wpAny (model prog w) A (pyNext (.ref it)) Q E s := by
  obtain ⟨o, ho, hc, hd⟩ := id hit
  obtain ⟨od, hod, hcd, hdd⟩ := id x
  unfold pyNext
  refine wpAny_bind (wpAny_attempt (wpAny_callSpecial?_slot (name := Str.ofString "__next__") hit.typeIs F.slot_dict_valueiterator_next
    (wpAny_call_entry F.slot_dict_valueiterator_next hit.typeIs F.entry_dict_valueiterator_next ?_ (F.args_dict_valueiterator_next_1 _))))
  refine wpAny_bind (wpAny_pure (wpAny_bind (wpAny_bind ?_)))
  first | refine wpAny_bind (wpAny_typeNameOfWhole_valiter hit.typeIs (wpAny_pure ?_)) | refine wpAny_bind (wpAny_typeNameOf_valiter hit.typeIs (wpAny_pure ?_))
  refine wpAny_bind (wpAny_fieldsOf ho hd ?_)
  simp only [show Builtin.Dict_items.ownsTuple "dict_valueiterator" = false from by decide, Bool.false_eq_true, if_false]
  show wpAny _ _ (if (Value.ref d == Value.none) = true then _ else _) _ _ s
  rw [if_neg (show ¬ ((Value.ref d == Value.none) = true) from Bool.false_ne_true)]
  refine wpAny_bind (wpAny_pure (wpAny_bind (wpAny_dictEntries hod hdd ?_)))
  rw [if_neg (by simp)]
  refine wpAny_bind (wpAny_pure (wpAny_bind (wpAny_dictEpoch hod hdd ?_)))
  rw [if_neg (by simp)]
  refine wpAny_pure ?_
  simp only [show ¬ ((es.size : Int) < 0) from by omega, if_false, Int.toNat_natCast, Array.getElem?_eq_none (Nat.le_refl es.size)]
  refine wpAny_bind ?_
  first | refine wpAny_bind (wpAny_typeNameOfWhole_valiter hit.typeIs (wpAny_pure ?_)) | refine wpAny_bind (wpAny_typeNameOf_valiter hit.typeIs (wpAny_pure ?_))
  show wpAny _ _ (setField (.ref it) 0 .none >>= _) _ _ s
  refine wpAny_bind (wpAny_setField ho hd (by simp) ?_)
  show wpAny _ _ (newExc (.type "StopIteration") [] >>= _) _ _ _
  refine wpAny_bind ?_
  simp only [newExc, newTuple]
  refine wpAny_bind (wpAny_newObj_type ?_ (by size_fits))
  refine wpAny_bind (m := firstArgMember _ _) (wpAny_of_eq (a := Value.none) (by first | rfl | (simp only [firstArgMember]; rfl)) ?_)
  refine wpAny_newObj_type ?_ (by size_fits)
  simp only [raiseNew]
  refine wpAny_bind (wpAny_handled ?_)
  rw [show A.in1.handled = none from hh]
  refine wpAny_bind (wpAny_pure (wpAny_throw ?_))
  refine wpAny_bind (wpAny_isInstance (T := "StopIteration") (b := true) ⟨_, Heap.get?_push_size _ rfl, rfl⟩ isSubtype_stop ?_)
  exact wpAny_pure (h _ (((Heap.SameBut.update ..).extBut.push _).push _))
theorem ev_walks (hh : A.handled = none) (I : Addr) (hne : d ≠ I) :
    Walks prog w A I [I, d] [I] es.size (fun i v => ∃ e, es[i]? = some e ∧ v = e.val) (fun i h => h.IsValIter I d i es.size ep ∧ EsAt h d es ep) where
  sub := fun b hb => by simp at hb; simp [hb]
  frame := fun _ _ _ st hk => ⟨st.1.at fun o e => hk I (by simp) o e, st.2.at fun o e => hk d (by simp) o e⟩
  item := fun i s Q E hi st hQ => by
    refine ev_step st.1 st.2 hi fun h' hit' hs' => ?_
    exact hQ _ h' s.toks ⟨es[i], by simp [hi], rfl⟩ ⟨hit', st.2.at fun o e => hs'.extBut d o hne e⟩ fun b o hb e => hs'.extBut b o (fun h => hb (by simp [h])) e
  done := fun s Q E st hQ => ev_stop hh st.1 st.2 fun h' he' => hQ h' s.toks fun b o hb e => he' b o (fun h => hb (by simp [h])) e
  self := fun _ _ _ _ st hQ => wpAny_pyIter_valiter st.1 hQ
theorem ev_src : KdlSrc prog w "dict_values" v d es.size (fun i v => ∃ e, es[i]? = some e ∧ v = e.val) (fun h => h.IsValuesView v d ∧ EsAt h d es ep) where
  type := fun _ hm => hm.1.typeIs
  there := fun _ hm => ⟨let ⟨_, ho, _⟩ := hm.1; Heap.lt_size ho, hm.2.lt⟩
  keep := fun _ _ hm hk => ⟨let ⟨o, ho, x⟩ := hm.1; ⟨o, hk v (.inl rfl) o ho, x⟩, hm.2.at fun o e => hk d (.inr rfl) o e⟩
  notList := by decide
  notTuple := by decide
  hint := fun _ _ _ _ hm hq => kdl_hint_values hm.1.typeIs hq
  iter := fun _ s hh hm => ⟨_, _, (fun _ _ hq => ev_iter hm.1 hm.2 hq), ev_walks hh s.heap.objs.size (Nat.ne_of_lt hm.2.lt), ⟨⟨_, Heap.get?_push_size _ rfl, rfl, rfl⟩, hm.2.at fun _ e => Heap.get?_push_of_some _ e⟩⟩
theorem ev_list {h₀ : Heap} {L : Addr} {m : Str → Option Value} {news : Led} {o : Obj} {Q : Value → Shared → Prop} (hh : A.handled = none) (F : Fr h₀ L s.heap m) (N : News h₀ L s.heap news)
    (hv : (v, { cls := .type "dict_values", data := .fields #[.ref d] }) ∈ news) (hd : (d, o) ∈ news) (he : o.ExactDict) (hda : o.data = .dict es ep) (hn : es.size ≤ 1000)
    (h : ∀ (B : Addr) c h' tk, Fr h₀ L h' m → News h₀ L h' ((B, listOf (es.toList.map (·.val)).toArray c) :: news) → (∀ q ∈ news, q.1 < B) → Q (.ref B) { s with heap := h', toks := tk }) :
    wpAny (model prog w) A (call (.type "list") [.ref v]) Q E s := by
  refine kdl_N (ev_src (d := d) (es := es) (ep := ep)) hh F N ⟨⟨_, (N _ hv).1, rfl, rfl⟩, ⟨o, (N _ hd).1, he, hda⟩⟩ (small_size hn) fun B c h' tk vs F' N' l1 hl hvs => ?_
  have e : vs = es.toList.map (·.val) := by
    apply List.ext_getElem?
    intro j
    rcases Nat.lt_or_ge j vs.length with hj | hj
    · obtain ⟨en, h1, h2⟩ := hvs j vs[j] (by simp [hj])
      rw [List.getElem?_map, List.getElem?_eq_getElem hj, h2]; have h3 : es.toList[j]? = some en := by rw [Array.getElem?_toList]; exact h1
      rw [h3]; rfl
    · rw [List.getElem?_eq_none hj, List.getElem?_eq_none (by rw [List.length_map, Array.length_toList, ← hl]; exact hj)]
  rw [e] at N'
  exact h B c h' tk F' N' l1
theorem ev_view {h₀ : Heap} {L : Addr} {m : Str → Option Value} {news : Led} {o : Obj} {Q : Value → Shared → Prop} (F : Fr h₀ L s.heap m) (N : News h₀ L s.heap news) (hd : (d, o) ∈ news) (he : o.ExactDict) (lo : (d == sysModules) = false)
    (h : ∀ (D : Addr) h', Fr h₀ L h' m → News h₀ L h' ((D, { cls := .type "dict_values", data := .fields #[.ref d] }) :: news) → (∀ q ∈ news, q.1 < D) → Q (.ref D) { s with heap := h' }) :
    wpAny (model prog w) A (call (.builtin "dict.values") [.ref d]) Q E s := by
  have hT : s.TypeIs (.ref d) "dict" := ⟨o, (N _ hd).1, he.1⟩
  refine call_meetsIn PySem.F.slot_dict_values hT PySem.F.entry_dict_values (PySem.F.args_dict_values_1 _) (S := fun _ R s => s.TypeIs (.ref d) "dict" ∧ R (.ok (.ret (.ref s.heap.objs.size))) { s with heap := s.heap.push { cls := .type "dict_values", data := .fields #[.ref d] } }) (.of_wp fun A R s ⟨hT, h⟩ => ?_) ⟨hT, h _ _ (F.push _) (News.push F N _) fun q hq => Heap.lt_size (N q hq).1⟩
  refine wpAny_bind ?_
  unfold Builtin.Dict.noArgs
  refine wpAny_bind (wpAny_notOrdered_dict hT ?_)
  show wpAny _ _ (pure d) _ _ s
  refine wpAny_pure ?_
  show wpAny _ _ (Builtin.Dict.showsAll d >>= _) _ _ s
  unfold Builtin.Dict.showsAll
  rw [if_neg (by rw [lo]; exact Bool.false_ne_true)]
  exact wpAny_bind (wpAny_pure (wpAny_bind (wpAny_newObj_type (wpAny_pure ⟨_, rfl, h⟩))))
theorem ev_method {h₀ : Heap} {L : Addr} {news : Led} {o : Obj} {pl : Sem Bool} {Q : Value × List Value → Shared → Prop} (N : News h₀ L s.heap news) (hd : (d, o) ∈ news) (he : o.ExactDict) (h : Q (.builtin "dict.values", [.ref d]) s) :
    wpAny (model prog w) A (getMethod (.ref d) "values" pl) Q E s :=
  getMethod_builtin ⟨o, (N _ hd).1, he.1⟩ PySem.F.plainAttrs_dict PySem.F.slot_dict_values PySem.F.type_dict_values (fun b e => by cases e; exact ⟨o, (N _ hd).1, he.2.1⟩) h
end
end Mine
end
section
open PyProof.V
namespace Mine
/-- a dict's key gives this int -/
def KeyGets (w : World) (l : Led) (d : Addr) (key : Value) (g : Int) : Prop :=
  ∀ {h₀ : Heap} {L : Addr} {A : Around} {E : Value → Shared → Prop} {s : Shared} {value : PySem.Expr} {sx : Str} {sp : Pos} {Q : Value → Shared → Prop}, News h₀ L s.heap l → A.units + 1 < cLine → (∀ t tk, Q (.int g t) { s with toks := tk }) →
    (∀ r, letTemporaryGo value (.ref d) r = pure ()) → wpAny (model PG w) A (subscriptTail value (.Name sx sp) (.ref d) key) Q E s
/-- the dict of a row of targets: its keys give these goals, in order -/
def RowDict (w : World) (l : Led) (d : Addr) (gs : List Int) : Prop :=
  ∃ o es ep, (d, o) ∈ l ∧ o.ExactDict ∧ o.data = .dict es ep ∧ (d == sysModules) = false ∧ es.size = gs.length ∧
    ∀ (i : Nat) (e : DictEntry), es[i]? = some e → ∃ g, gs[i]? = some g ∧ (∃ t, e.val = .int g t) ∧ KeyGets w l d e.key g
theorem flat_int {v : Value} {g : Int} (h : Flat v (PyData.int g)) : ∃ t, v = .int g t := by
  have h1 := h { objs := #[] }
  cases h1; exact ⟨_, rfl⟩
theorem rowDict_sos {w : World} {l : Led} {d : Addr} {o : Obj} {g : Int} {u : Tok} (hm : (d, o) ∈ l) (hd : o.IsDictOf (intKind PG w) [(30, .int g u)]) (lo : (d == sysModules) = false) : RowDict w l d [g] := by
  obtain ⟨es, ep, hc, hdat, hk, hp, hn⟩ := id hd
  have hl := hp.length
  refine ⟨o, es, ep, hm, hc, hdat, lo, by simpa using hl, fun i e he => ?_⟩
  have he' : es.toList[i]? = some e := by rw [Array.getElem?_toList]; exact he
  cases i with
  | succ j =>
    have h1 : es.toList[j + 1]? = none := List.getElem?_eq_none (by rw [hl]; simp)
    rw [h1] at he'; cases he'
  | zero =>
    obtain ⟨hkey, hval⟩ := hp.get? he' (k := 30) (v := .int g u) rfl
    refine ⟨g, rfl, ⟨u, hval⟩, ?_⟩
    obtain ⟨tk, hk2⟩ := Value.isInt_shape hkey
    rw [hk2] at hkey ⊢
    exact fun N _ hQ hg => kda_item N hm hd hkey (by simp [valueAt]) (hQ u _) (by with_unfolding_all rfl) hg
theorem flat_inv {K : Type} {enc : K → PyData} {kvs : List (K × Value)} {p d : PyData} {D : List (PyData × PyData)} (h : FlatPairs enc kvs ((p, d) :: D)) : ∃ k v r, kvs = (k, v) :: r ∧ enc k = p ∧ Flat v d ∧ FlatPairs enc r D := by
  generalize hD : ((p, d) :: D) = DD at h
  cases h with
  | nil => cases hD
  | cons f r =>
    injection hD with h1 h2
    injection h1 with h3 h4
    subst h3 h4 h2
    exact ⟨_, _, _, rfl, rfl, f, r⟩
theorem flat_nil {K : Type} {enc : K → PyData} {kvs : List (K × Value)} (h : FlatPairs enc kvs []) : kvs = [] := by
  generalize hD : ([] : List (PyData × PyData)) = DD at h
  cases h with
  | nil => rfl
  | cons f r => cases hD
theorem enc_inj {a b : List Int} (h : encTuple PyData.int a = encTuple PyData.int b) : a = b := by
  injection h with h
  induction a generalizing b with
  | nil => cases b with
    | nil => rfl
    | cons => simp at h
  | cons x r ih => cases b with
    | nil => simp at h
    | cons y q =>
      simp only [List.map_cons, List.cons.injEq] at h
      obtain ⟨h1, h2⟩ := h
      injection h1 with h1
      rw [h1, ih h2]
theorem kvs_two {xs : List (List Int × Addr × Value)} {a b : List Int} {v w : Value} (h : kvsOf xs = [(a, v), (b, w)]) : ∃ k0 k1, xs = [(a, k0, v), (b, k1, w)] := by
  obtain ⟨⟨x1, k0, x2⟩, r, rfl, h1, h2⟩ := List.map_eq_cons_iff.mp h
  obtain ⟨⟨y1, k1, y2⟩, r', rfl, h3, h4⟩ := List.map_eq_cons_iff.mp h2
  cases List.map_eq_nil_iff.mp h4
  injection h1 with e1 e2
  injection h3 with e3 e4
  have e1' : x1 = a := e1
  have e2' : x2 = v := e2
  have e3' : y1 = b := e3
  have e4' : y2 = w := e4
  rw [e1', e2', e3', e4']
  exact ⟨k0, k1, rfl⟩
/-- the table of switch_on_constant -/
theorem soc_inv {w : World} {l : Led} {d : Addr} {g0 g1 : Int} (T : TupTab (intKind PG w) PyData.int l d [(encTuple PyData.int [5, 0], PyData.int g0), (encTuple PyData.int [5, -4], PyData.int g1)]) :
    ∃ o es ep k0 k1 ok0 ok1, (d, o) ∈ l ∧ o.ExactDict ∧ o.data = .dict es ep ∧ (d == sysModules) = false ∧ es.size = 2 ∧ (∀ e, es[0]? = some e → e.key = .ref k0 ∧ ∃ t, e.val = .int g0 t) ∧ (∀ e, es[1]? = some e → e.key = .ref k1 ∧ ∃ t, e.val = .int g1 t) ∧
      (k0, ok0) ∈ l ∧ TupKeyObj (intKind PG w) [5, 0] ok0 ∧ (k1, ok1) ∈ l ∧ TupKeyObj (intKind PG w) [5, -4] ok1 ∧ KeyGets w l d (.ref k0) g0 ∧ KeyGets w l d (.ref k1) g1 := by
  obtain ⟨lo, o, es, ep, xs, hm, hc, hdat, he, hn, hk, hf⟩ := id T
  obtain ⟨a, v0, r0, e0, h0, f0, hf⟩ := flat_inv hf
  obtain ⟨b, v1, r1, e1, h1, f1, hf⟩ := flat_inv hf
  have e2 := flat_nil hf
  subst e2 e1
  obtain ⟨t0, rfl⟩ := flat_int f0
  obtain ⟨t1, rfl⟩ := flat_int f1
  rw [enc_inj h0, enc_inj h1] at e0
  obtain ⟨k0, k1, rfl⟩ := kvs_two e0
  clear e0 hf f0 f1 h0 h1
  obtain ⟨ok0, hm0, tk0⟩ := hk _ (.head _)
  obtain ⟨ok1, hm1, tk1⟩ := hk _ (.tail _ (.head _))
  have hsz : es.size = 2 := by rw [← Array.length_toList, he]; rfl
  refine ⟨o, es, ep, k0, k1, ok0, ok1, hm, hc, hdat, lo, hsz, fun e hei => ?_, fun e hei => ?_, hm0, tk0, hm1, tk1, ?_, ?_⟩
  · have he' : es.toList[0]? = some e := by rw [Array.getElem?_toList]; exact hei
    rw [he] at he'
    have e1 : _ = e := Option.some.inj he'
    subst e1
    exact ⟨rfl, t0, rfl⟩
  · have he' : es.toList[1]? = some e := by rw [Array.getElem?_toList]; exact hei
    rw [he] at he'
    have e1 : _ = e := Option.some.inj he'
    subst e1
    exact ⟨rfl, t1, rfl⟩
  · exact fun N hu hQ hg => item_tupTab (knd := intKind PG w) (enc := PyData.int) same_int hu N T hm0 tk0 (dv := PyData.int g0) (by simp [PySem.Spec.lookup, same_encTuple same_int]) (fun v hv => by obtain ⟨t, rfl⟩ := flat_int hv; exact hQ t _) (by with_unfolding_all rfl) hg
  · exact fun N hu hQ hg => item_tupTab (knd := intKind PG w) (enc := PyData.int) same_int hu N T hm1 tk1 (dv := PyData.int g1) (by simp [PySem.Spec.lookup, same_encTuple same_int]) (fun v hv => by obtain ⟨t, rfl⟩ := flat_int hv; exact hQ t _) (by with_unfolding_all rfl) hg
theorem rowDict_soc {w : World} {l : Led} {d : Addr} {g0 g1 : Int} (T : TupTab (intKind PG w) PyData.int l d [(encTuple PyData.int [5, 0], PyData.int g0), (encTuple PyData.int [5, -4], PyData.int g1)]) : RowDict w l d [g0, g1] := by
  obtain ⟨o, es, ep, k0, k1, ok0, ok1, hm, hc, hdat, lo, hsz, h0, h1, _, _, _, _, G0, G1⟩ := soc_inv T
  refine ⟨o, es, ep, hm, hc, hdat, lo, hsz, fun i e hei => ?_⟩
  have hi := (Array.getElem?_eq_some_iff.mp hei).1
  rcases (by omega : i = 0 ∨ i = 1) with rfl | rfl
  · obtain ⟨e1, e2⟩ := h0 e hei
    exact ⟨g0, rfl, e2, by rw [e1]; exact G0⟩
  · obtain ⟨e1, e2⟩ := h1 e hei
    exact ⟨g1, rfl, e2, by rw [e1]; exact G1⟩
end Mine
end
namespace Mine
/-- a new list of these ints -/
def NewInts (news : Led) (ns : List Int) (x : Value) (l : Led) : Prop := ∃ a vs n, x = .ref a ∧ (a, listOf vs.toArray n) ∈ l ∧ IntsAre vs ns ∧ (∀ p ∈ news, p ∈ l) ∧ ∀ p ∈ news, p.1 < a
theorem ints_push {vs : List Value} {ns : List Int} {g : Int} {t : Tok} (h : IntsAre vs ns) : IntsAre (vs ++ [.int g t]) (ns ++ [g]) := by
  induction h with
  | nil => exact .cons g t .nil
  | cons k t r ih => exact .cons k t ih
/-- a place of a row, told by its kind's letter, and the goals that it names -/
inductive Part (w : World) (news : Led) : Str → Value → List Int → Prop
  | goal {g u} : Part w news (Str.ofString "L") (.int g u) [g]
  | tabT {d gs} : RowDict w news d gs → gs.length ≤ 2 → Part w news (Str.ofString "T") (.ref d) gs
  | tabU {d gs} : RowDict w news d gs → gs.length ≤ 2 → Part w news (Str.ofString "U") (.ref d) gs
  | fn {x} : Part w news (Str.ofString "F") x []
  | num {x} : Part w news (Str.ofString "N") x []
  | reg {x} : Part w news (Str.ofString "X") x []
inductive PartsAre (w : World) (news : Led) : List Str → List Value → List Int → Prop
  | nil : PartsAre w news [] [] []
  | cons {c x gs cs xs hs} : Part w news c x gs → PartsAre w news cs xs hs → PartsAre w news (c :: cs) (x :: xs) (gs ++ hs)
def RowD.letters : RowD → List Str
  | .call => [Str.ofString "F", Str.ofString "N"] | .glist => [Str.ofString "X"] | .execute => [Str.ofString "F"] | .mcall => [Str.ofString "N"]
  | .tryR _ => [Str.ofString "L", Str.ofString "N"] | .retry _ | .trust _ => [Str.ofString "L"]
  | .sot _ _ _ _ => [Str.ofString "L", Str.ofString "L", Str.ofString "L", Str.ofString "L"]
  | .sos _ _ => [Str.ofString "U", Str.ofString "L"] | .soc _ _ _ => [Str.ofString "T", Str.ofString "L"]
  | _ => []
theorem row_parts {w : World} {news : Led} {v : Value} {r : RowD} (h : RowAt w news v r) : ∃ za zt rest zn, v = .ref za ∧ (za, tupO (S r.name zt :: rest) zn) ∈ news ∧ PartsAre w news r.letters rest r.goals := by
  cases h with
  | cut h => exact ⟨_, _, _, _, rfl, h, .nil⟩
  | call h => exact ⟨_, _, _, _, rfl, h, .cons .fn (.cons .num .nil)⟩
  | glist h k => exact ⟨_, _, _, _, rfl, h, .cons .reg .nil⟩
  | proceed h => exact ⟨_, _, _, _, rfl, h, .nil⟩
  | execute h => exact ⟨_, _, _, _, rfl, h, .cons .fn .nil⟩
  | fail h => exact ⟨_, _, _, _, rfl, h, .nil⟩
  | halt h => exact ⟨_, _, _, _, rfl, h, .nil⟩
  | mcall h => exact ⟨_, _, _, _, rfl, h, .cons .num .nil⟩
  | cfail h => exact ⟨_, _, _, _, rfl, h, .nil⟩
  | dyn h => exact ⟨_, _, _, _, rfl, h, .nil⟩
  | tryR h => exact ⟨_, _, _, _, rfl, h, .cons .goal (.cons .num .nil)⟩
  | retry h => exact ⟨_, _, _, _, rfl, h, .cons .goal .nil⟩
  | trust h => exact ⟨_, _, _, _, rfl, h, .cons .goal .nil⟩
  | sot h => exact ⟨_, _, _, _, rfl, h, .cons .goal (.cons .goal (.cons .goal (.cons .goal .nil)))⟩
  | sos h k e lo => exact ⟨_, _, _, _, rfl, h, .cons (.tabU (rowDict_sos k e lo) (Nat.le_of_ble_eq_true rfl)) (.cons .goal .nil)⟩
  | soc h T => exact ⟨_, _, _, _, rfl, h, .cons (.tabT (rowDict_soc T) (Nat.le_of_ble_eq_true rfl)) (.cons .goal .nil)⟩
  | push h => exact ⟨_, _, _, _, rfl, h, .nil⟩
theorem letters_len (r : RowD) : (Str.ofString r.kinds).length = r.letters.length := by cases r <;> rfl
theorem letters_at (r : RowD) {i : Nat} {c : Str} (h : r.letters[i]? = some c) : Txt.item (Str.ofString r.kinds) (i : Int) = c := by
  have all : ∀ (k : String) (l : List Str), (∀ i, i < l.length → l[i]? = some (Txt.item (Str.ofString k) (i : Int))) → l[i]? = some c → Txt.item (Str.ofString k) (i : Int) = c := fun k l ha h => by
    have := ha i (List.getElem?_eq_some_iff.mp h).1
    rw [h] at this
    exact (Option.some.inj this).symm
  refine all r.kinds r.letters ?_ h
  clear h all
  cases r <;> dsimp only [RowD.kinds, RowD.letters] <;> decide +kernel
/-- the next place -/
theorem PartsAre.next {w : World} {news : Led} {cs : List Str} {xs : List Value} {gs : List Int} {i : Nat} {c : Str} (h : PartsAre w news (cs.drop i) (xs.drop i) gs) (hc : cs[i]? = some c) :
    ∃ x g hs, xs[i]? = some x ∧ Part w news c x g ∧ gs = g ++ hs ∧ PartsAre w news (cs.drop (i + 1)) (xs.drop (i + 1)) hs := by
  obtain ⟨hi, rfl⟩ := List.getElem?_eq_some_iff.mp hc
  rw [List.drop_eq_getElem_cons hi] at h
  generalize hd : xs.drop i = ds at h
  cases h with
  | @cons _ x g _ xs' hs hp hr =>
    have h1 : xs[i]? = some x := by
      have := congrArg (·[0]?) hd
      simpa using this
    have h2 : xs.drop (i + 1) = xs' := by
      have := congrArg (·.drop 1) hd
      simpa [List.drop_drop] using this
    exact ⟨x, g, hs, h1, hp, rfl, by rw [h2]; exact hr⟩
theorem kinds_item {prog : Program} {w : World} {A : Around} {E : Value → Shared → Prop} {s : Shared} {value slice : PySem.Expr} {x y : Str} {t u : Tok} {i n : Nat} {Q : Value → Shared → Prop} (hk : x.length = n) (hi : i < n) (hn : n ≤ 100) (e : Txt.item x (i : Int) = y) (h : Q (.str y s.toks) { s with toks := s.toks + 1 })
    (hs : subscripted slice false (.str x t) (.int (i : Int) u) = operate [.str x t, .int (i : Int) u] (getItem (.str x t) (.int (i : Int) u)) := by with_unfolding_all rfl)
    (ht : ∀ r, letTemporaryGo value (.str x t) r = pure () := by intro _; with_unfolding_all rfl) :
    wpAny (model prog w) A (subscriptTail value slice (.str x t) (.int (i : Int) u)) Q E s :=
  KXi.item hk (by omega) (by omega) (by omega) (fun _ => by rw [e]; exact h) hs ht
theorem row_item {prog : Program} {w : World} {A : Around} {E : Value → Shared → Prop} {s : Shared} {value slice : PySem.Expr} {t : Addr} {x0 x : Value} {rest : List Value} {i : Nat} {k : Int} {u : Tok} {Q : Value → Shared → Prop} (ht : IsTup s.heap t (x0 :: rest).toArray) (hk : k = (i : Int) + 1) (hx : rest[i]? = some x) (hn : i ≤ 100) (h : Q x s)
    (hs : subscripted slice false (.ref t) (.int k u) = operate [.ref t, .int k u] (getItem (.ref t) (.int k u)) := by with_unfolding_all rfl) :
    wpAny (model prog w) A (subscriptTail value slice (.ref t) (.int k u)) Q E s := by
  have hi := (List.getElem?_eq_some_iff.mp hx).1
  refine item_tupleT ht (j := i + 1) (by omega) (by omega) ?_ (by rw [List.getElem?_cons_succ]; exact hx) h hs
  subst hk
  unfold seqIndex?
  rw [List.length_cons]
  have h1 : ¬ ((i : Int) + 1 < 0) := by omega
  simp only [h1, if_false]
  rw [if_pos (by simp only [Bool.and_eq_true, decide_eq_true_eq]; omega)]
  congr 1
end Mine
namespace Mine
/-- between the turns of targets' loop -/
def TJ (w : World) (news : Led) (v kd : Value) (cs : List Str) (xs : List Value) (goals : List Int) (i : Nat) (m : Str → Option Value) (nx : Led) : Prop :=
  ∃ lf vs k p post, nx = (lf, listOf vs.toArray k) :: news ∧ IntsAre vs p ∧ goals = p ++ post ∧ PartsAre w news (cs.drop i) (xs.drop i) post ∧ (∀ p ∈ news, p.1 < lf) ∧ Vars m [(Str.ofString "found", .ref lf), (Str.ofString "ins", v), (Str.ofString "kinds", kd)]
end Mine
local macro_rules | `(tactic| walk_at "subscriptTail Name Name str int") => `(tactic| (k_here; (with_reducible show wpAny _ _ (subscriptTail _ _ (Value.str _ _) (Value.int _ _)) _ _ _); k_dflt (refine' Mine.kinds_item ?a ?b ?c ?e ?_; (case a => with_reducible assumption); (case b => with_reducible assumption); (case c => omega); (case e => with_reducible assumption))))
local macro_rules | `(tactic| walk_at "subscriptTail Name BinOp ref int") => `(tactic| (k_here; (with_reducible show wpAny _ _ (subscriptTail _ _ (Value.ref _) (Value.int _ _)) _ _ _); k_dflt (refine' Mine.row_item ?t ?a ?b ?c ?_; (case t => exact News.isTup (by k_asm) (by k_mem)); (case a => exact rfl); (case b => with_reducible assumption); (case c => omega))))
namespace Mine
theorem targets_spec (w : World) (v : Value) (r : RowD) (tkK : Tok) (news : Led) (hr : RowAt w news v r) :
    Spec w 1 61 [v, S r.kinds tkK] news (NewInts news r.goals) := by
  unfold Spec
  intro mean mg mb dp un gd cn cs a ccd cl outer A₀ base h₀ L m s Q E B F X N T hk hdp hun hret
  (have _ : (PySem.Challenge.rw_sa0141_01 = PySem.Challenge.rw_sa0141_01) ∧ (HD.heap_39 = HD.heap_39) := by k_fill; exact ⟨rfl, rfl⟩)
  refine wpAny_call ?_
  ((with_reducible refine Mine.hide fun G9 hG9 => ?_); obtain ⟨za, zt, rest, zn, rfl, hz, hP⟩ := row_parts hr; refine hG9 ?_; clear hG9 G9)
  have hkl := letters_len r
  have hka := fun i c => letters_at r (i := i) (c := c)
  have hl4 : r.letters.length ≤ 4 := by cases r <;> exact Nat.le_of_ble_eq_true rfl
  generalize r.letters = ls at hP hkl hka hl4
  have hg4 : r.goals.length ≤ 4 := by cases r <;> exact Nat.le_of_ble_eq_true rfl
  generalize r.goals = goals at hP hret hg4
  clear hr
  dsimp only [S] at *
  k_dflt cell_enter
  rename Fr _ _ _ _ => F0
  have F1 : Fr _ _ _ (fun y => List.lookup y [(Str.ofString "kinds", .str (Str.ofString r.kinds) tkK), (Str.ofString "ins", .ref za)]) := F0
  clear F0
  generalize Str.ofString r.kinds = K at hkl hka F1
  refine any_toks fun tk0 => ?_
  k_steps
  rename IsRange _ _ _ _ _ _ _ _ => hR
  rename Fr _ _ _ _ => F2
  rename News _ _ _ _ => N2
  rw [hkl] at hR
  refine range_loop (n := ls.length) (TJ w news (.ref za) (.str K tkK) ls rest goals) rfl hR rfl (by omega) F2 N2 ⟨_, [], _, [], goals, rfl, .nil, rfl, hP, (by assumption), rfl, rfl, rfl, trivial⟩ ?_ ?_
  · (intro i t m₁ nx h tk own hi hoff h99 F3 N3; (with_reducible refine Mine.hide fun G9 hG9 => ?_); rcases h99 with ⟨lf, vs, k, p, post, rfl, hI, hg, hPi, hlt, V⟩ <;> (refine hG9 ?_; clear hG9 G9))
    have F4 := Fr.vars V F3
    have N4 : News _ _ h ((lf, listOf vs.toArray k) :: (news ++ own)) := N3
    have e2 : ∀ p ∈ news ++ own, p.1 ≠ lf := fun p hp => (List.mem_append.mp hp).elim (lt_ne hlt p) fun hp => hoff p hp lf (by simp)
    have hc : ls[i]? = some ls[i] := List.getElem?_eq_getElem hi
    have hlp : p.length + post.length ≤ 4 := by rw [← List.length_append, ← hg]; exact hg4
    have hlen : vs.length ≤ 100 := by rw [hI.length]; omega
    have hit := hka i _ hc
    ((with_reducible refine Mine.hide fun G9 hG9 => ?_); obtain ⟨x, g, hs, hx, hp, he, hPn⟩ := hPi.next hc; refine hG9 ?_; clear hG9 G9)
    have hgl : g.length ≤ 4 := by rw [he, List.length_append] at hlp; omega
    have hz2 : (za, tupO (.str (Str.ofString r.name) _ :: rest) zn) ∈ (lf, listOf vs.toArray k) :: (news ++ own) := .tail _ (List.mem_append_left _ hz)
    have hi4 : i ≤ 4 := by omega
    generalize ls[i] = c at hc hit hp
    clear F3 N3 F2 N2 hPi
    cases hp with
    | goal =>
      k_steps
      rename Fr _ _ _ _ => F9
      rename News _ _ _ _ => N9
      rw [List.push_toArray] at N9
      exact InvEndG.intro (nx := (lf, _) :: news) F9 N9 ⟨lf, vs ++ [_], _, p ++ [_], hs, rfl, ints_push hI, by rw [hg, he, List.append_assoc], hPn, hlt, rfl, rfl, rfl, trivial⟩ hoff (sub_cons sub_left) (sub_tail sub_right)
    | @tabT dd _ hD h2 =>
        have hz5 : IntsAre vs p := hI
        ((with_reducible refine Mine.hide fun G9 hG9 => ?_); obtain ⟨od, es, ep, hmd, hxd, hdd, lod, hsz, hget⟩ := hD; refine hG9 ?_; clear hG9 G9)
        k_steps
        rename Fr _ _ _ _ => F6
        rename News _ _ _ _ => N6
        refine dict_loop (fun j m nx => ∃ vs k, nx = (lf, listOf vs.toArray k) :: (news ++ own) ∧ IntsAre vs (p ++ g.take j) ∧ Vars m [(Str.ofString "found", .ref lf), (Str.ofString "ins", .ref za), (Str.ofString "kinds", .str K tkK), (Str.ofString "value", .ref dd)]) rfl F6 N6 (.tail _ (List.mem_append_left _ hmd)) hxd hdd lod ⟨vs, k, rfl, by rw [List.take_zero, List.append_nil]; exact hI, rfl, rfl, rfl, rfl, trivial⟩ ?_ ?_
        · (intro j e m₂ nx h2 tk2 own2 hei hoff2 hdn h99 F7 N7; (with_reducible refine Mine.hide fun G9 hG9 => ?_); rcases h99 with ⟨vs2, k2, rfl, hI2, V2⟩ <;> (refine hG9 ?_; clear hG9 G9))
          ((with_reducible refine Mine.hide fun G9 hG9 => ?_); obtain ⟨gg, hgi, ⟨gt, hgv⟩, hkey⟩ := hget j e hei; refine hG9 ?_; clear hG9 G9)
          have F8 := Fr.vars V2 F7
          have N8 : News _ _ h2 ((lf, listOf vs2.toArray k2) :: ((news ++ own) ++ own2)) := N7
          have e3 : ∀ p ∈ (news ++ own) ++ own2, p.1 ≠ lf := fun p hp => (List.mem_append.mp hp).elim (e2 p) fun hp => hoff2 p hp lf (by simp)
          have hlen2 : vs2.length ≤ 100 := by rw [hI2.length, List.length_append, List.length_take]; omega
          clear F7 N7 F6 N6
          k_steps
          refine hkey (fun p hp => N8 p (.tail _ (List.mem_append_left _ (List.mem_append_left _ hp)))) (by units_room) (fun t2 tk3 => ?_) (by intro _; with_unfolding_all rfl)
          k_steps
          rename Fr _ _ _ _ => F9
          rename News _ _ _ _ => N9
          rw [List.push_toArray] at N9
          refine InvEndG.intro (nx := (lf, _) :: (news ++ own)) F9 N9 ⟨.tail _ (List.mem_append_left _ hmd), vs2 ++ [_], _, rfl, ?_, rfl, rfl, rfl, rfl, trivial⟩ hoff2 (sub_cons sub_left) (sub_tail sub_right)
          rw [List.take_add_one, hgi, Option.toList_some, ← List.append_assoc]
          exact ints_push hI2
        · (intro m₂ nx h2 tk2 h99 F7 N7; (with_reducible refine Mine.hide fun G9 hG9 => ?_); rcases h99 with ⟨vs2, k2, rfl, hI2, V2⟩ <;> (refine hG9 ?_; clear hG9 G9))
          have F8 := Fr.vars' V2 F7
          clear F7 F6 N6
          k_steps
          rename Fr _ _ _ _ => F9
          rename News _ _ _ _ => N9
          exact InvEndG.intro (nx := (lf, listOf vs2.toArray k2) :: news) F9 N9 ⟨lf, vs2, k2, p ++ g, hs, rfl, (by rw [hsz, List.take_length] at hI2; exact hI2), by rw [hg, he, List.append_assoc], hPn, hlt, rfl, rfl, rfl, trivial⟩ hoff (sub_cons sub_left) (sub_tail sub_right)
    | @tabU dd _ hD h2 =>
        have hz5 : IntsAre vs p := hI
        ((with_reducible refine Mine.hide fun G9 hG9 => ?_); obtain ⟨od, es, ep, hmd, hxd, hdd, lod, hsz, hget⟩ := hD; refine hG9 ?_; clear hG9 G9)
        k_steps
        rename Fr _ _ _ _ => F6
        rename News _ _ _ _ => N6
        refine dict_loop (fun j m nx => ∃ vs k, nx = (lf, listOf vs.toArray k) :: (news ++ own) ∧ IntsAre vs (p ++ g.take j) ∧ Vars m [(Str.ofString "found", .ref lf), (Str.ofString "ins", .ref za), (Str.ofString "kinds", .str K tkK), (Str.ofString "value", .ref dd)]) rfl F6 N6 (.tail _ (List.mem_append_left _ hmd)) hxd hdd lod ⟨vs, k, rfl, by rw [List.take_zero, List.append_nil]; exact hI, rfl, rfl, rfl, rfl, trivial⟩ ?_ ?_
        · (intro j e m₂ nx h2 tk2 own2 hei hoff2 hdn h99 F7 N7; (with_reducible refine Mine.hide fun G9 hG9 => ?_); rcases h99 with ⟨vs2, k2, rfl, hI2, V2⟩ <;> (refine hG9 ?_; clear hG9 G9))
          ((with_reducible refine Mine.hide fun G9 hG9 => ?_); obtain ⟨gg, hgi, ⟨gt, hgv⟩, hkey⟩ := hget j e hei; refine hG9 ?_; clear hG9 G9)
          have F8 := Fr.vars V2 F7
          have N8 : News _ _ h2 ((lf, listOf vs2.toArray k2) :: ((news ++ own) ++ own2)) := N7
          have e3 : ∀ p ∈ (news ++ own) ++ own2, p.1 ≠ lf := fun p hp => (List.mem_append.mp hp).elim (e2 p) fun hp => hoff2 p hp lf (by simp)
          have hlen2 : vs2.length ≤ 100 := by rw [hI2.length, List.length_append, List.length_take]; omega
          clear F7 N7 F6 N6
          k_steps
          refine hkey (fun p hp => N8 p (.tail _ (List.mem_append_left _ (List.mem_append_left _ hp)))) (by units_room) (fun t2 tk3 => ?_) (by intro _; with_unfolding_all rfl)
          k_steps
          rename Fr _ _ _ _ => F9
          rename News _ _ _ _ => N9
          rw [List.push_toArray] at N9
          refine InvEndG.intro (nx := (lf, _) :: (news ++ own)) F9 N9 ⟨.tail _ (List.mem_append_left _ hmd), vs2 ++ [_], _, rfl, ?_, rfl, rfl, rfl, rfl, trivial⟩ hoff2 (sub_cons sub_left) (sub_tail sub_right)
          rw [List.take_add_one, hgi, Option.toList_some, ← List.append_assoc]
          exact ints_push hI2
        · (intro m₂ nx h2 tk2 h99 F7 N7; (with_reducible refine Mine.hide fun G9 hG9 => ?_); rcases h99 with ⟨vs2, k2, rfl, hI2, V2⟩ <;> (refine hG9 ?_; clear hG9 G9))
          have F8 := Fr.vars' V2 F7
          clear F7 F6 N6
          k_steps
          rename Fr _ _ _ _ => F9
          rename News _ _ _ _ => N9
          exact InvEndG.intro (nx := (lf, listOf vs2.toArray k2) :: news) F9 N9 ⟨lf, vs2, k2, p ++ g, hs, rfl, (by rw [hsz, List.take_length] at hI2; exact hI2), by rw [hg, he, List.append_assoc], hPn, hlt, rfl, rfl, rfl, trivial⟩ hoff (sub_cons sub_left) (sub_tail sub_right)
    | fn =>
        k_steps
        rename Fr _ _ _ _ => F9
        rename News _ _ _ _ => N9
        exact InvEndG.intro (nx := (lf, listOf vs.toArray k) :: news) F9 N9 ⟨lf, vs, k, p, hs, rfl, hI, by rw [hg, he]; simp, hPn, hlt, rfl, rfl, rfl, trivial⟩ hoff (sub_cons sub_left) (sub_tail sub_right)
    | num =>
        k_steps
        rename Fr _ _ _ _ => F9
        rename News _ _ _ _ => N9
        exact InvEndG.intro (nx := (lf, listOf vs.toArray k) :: news) F9 N9 ⟨lf, vs, k, p, hs, rfl, hI, by rw [hg, he]; simp, hPn, hlt, rfl, rfl, rfl, trivial⟩ hoff (sub_cons sub_left) (sub_tail sub_right)
    | reg =>
        k_steps
        rename Fr _ _ _ _ => F9
        rename News _ _ _ _ => N9
        exact InvEndG.intro (nx := (lf, listOf vs.toArray k) :: news) F9 N9 ⟨lf, vs, k, p, hs, rfl, hI, by rw [hg, he]; simp, hPn, hlt, rfl, rfl, rfl, trivial⟩ hoff (sub_cons sub_left) (sub_tail sub_right)
  · (intro m₁ nx h tk h99 F3 N3; (with_reducible refine Mine.hide fun G9 hG9 => ?_); rcases h99 with ⟨lf, vs, k, p, post, rfl, hI, hg, hPi, hlt, V⟩ <;> (refine hG9 ?_; clear hG9 G9))
    have F4 := Fr.vars' V F3
    have hpe : goals = p := by
      rw [List.drop_length] at hPi
      generalize rest.drop ls.length = ds at hPi
      cases hPi
      rw [hg, List.append_nil]
    clear F3
    k_steps
    exact hret _ _ _ _ (by k_asm) (by k_asm) ⟨lf, vs, k, rfl, .head _, by rw [hpe]; exact hI, fun p hp => .tail _ hp, hlt⟩
end Mine
section
namespace Mine
theorem vals_ints {es : Array DictEntry} {gs : List Int} {P : Value → Int → Prop} (hsz : es.size = gs.length) (hget : ∀ (i : Nat) (e : DictEntry), es[i]? = some e → ∃ g, gs[i]? = some g ∧ (∃ t, e.val = .int g t) ∧ P e.key g) : IntsAre (es.toList.map (·.val)) gs := by
  have key : ∀ (l : List DictEntry) (gs : List Int), l.length = gs.length → (∀ (i : Nat) (e : DictEntry), l[i]? = some e → ∃ g, gs[i]? = some g ∧ ∃ t, e.val = .int g t) → IntsAre (l.map (·.val)) gs := by
    intro l
    induction l with
    | nil => intro gs h _; rw [List.eq_nil_of_length_eq_zero h.symm]; exact .nil
    | cons e r ih =>
      intro gs h hg
      cases gs with
      | nil => simp at h
      | cons g q =>
        obtain ⟨g', h1, t, h2⟩ := hg 0 e rfl
        have h3 : g = g' := Option.some.inj h1
        subst h3
        rw [List.map_cons, h2]
        exact .cons g t (ih q (by simpa using h) fun i e' he => by simpa using hg (i + 1) e' (by simpa using he))
  exact key es.toList gs (by simpa using hsz) fun i e he => by
    rw [Array.getElem?_toList] at he
    obtain ⟨g, h1, h2, _⟩ := hget i e he
    exact ⟨g, h1, h2⟩
/-- the rows, by what they name -/
inductive Class (w : World) (news : Led) (av : Addr) (nm : Str) : List Int → Prop
  | plain : (List.any [Str.ofString "try", Str.ofString "retry", Str.ofString "trust"] fun x => x == nm) = false → (nm == Str.ofString "switch_on_term") = false →
      (List.any [Str.ofString "switch_on_constant", Str.ofString "switch_on_structure"] fun x => x == nm) = false → Class w news av nm []
  | one {t u g rest n} : (List.any [Str.ofString "try", Str.ofString "retry", Str.ofString "trust"] fun x => x == nm) = true → (av, tupO (.str nm t :: .int g u :: rest) n) ∈ news → Class w news av nm [g]
  | sot {t u0 u1 u2 u3 g0 g1 g2 g3 n} : (List.any [Str.ofString "try", Str.ofString "retry", Str.ofString "trust"] fun x => x == nm) = false → (nm == Str.ofString "switch_on_term") = true →
      (av, tupO [.str nm t, .int g0 u0, .int g1 u1, .int g2 u2, .int g3 u3] n) ∈ news → Class w news av nm [g0, g1, g2, g3]
  | tab {t u d g gs n} : (List.any [Str.ofString "try", Str.ofString "retry", Str.ofString "trust"] fun x => x == nm) = false → (nm == Str.ofString "switch_on_term") = false →
      (List.any [Str.ofString "switch_on_constant", Str.ofString "switch_on_structure"] fun x => x == nm) = true → (av, tupO [.str nm t, .ref d, .int g u] n) ∈ news → gs.length ≤ 2 → RowDict w news d gs → Class w news av nm (gs ++ [g])
theorem row_class {w : World} {news : Led} {v : Value} {r : RowD} (hr : RowAt w news v r) : ∃ av t rest n, v = .ref av ∧ (av, tupO (.str (Str.ofString r.name) t :: rest) n) ∈ news ∧ Class w news av (Str.ofString r.name) r.goals := by
  obtain ⟨av, t, rest, n, rfl, hm⟩ := row_head hr
  refine ⟨av, t, rest, n, rfl, hm, ?_⟩
  cases hr with
  | tryR h => exact .one rfl h
  | retry h => exact .one rfl h
  | trust h => exact .one rfl h
  | sot h => exact .sot rfl rfl h
  | sos h k e lo => exact .tab (gs := [_]) rfl rfl rfl h (Nat.le_of_ble_eq_true rfl) (rowDict_sos k e lo)
  | soc h T => exact .tab (gs := [_, _]) rfl rfl rfl h (Nat.le_of_ble_eq_true rfl) (rowDict_soc T)
  | _ => exact .plain rfl rfl rfl
theorem ite_no {b : Bool} {p q : Prop} (hb : b = false) (h : q) : if b = true then p else q := by rw [hb]; exact h
theorem ite_yes {b : Bool} {p q : Prop} (hb : b = true) (h : p) : if b = true then p else q := by rw [hb]; exact h
end Mine
-- a test of the row's name: the walk stops there
local macro_rules | `(tactic| walk_at "ite") => `(tactic| (with_reducible first | (show (if List.any _ _ = true then _ else _); refine Mine.Stop.out ?_) | (show (if (_ == _) = true then _ else _); refine Mine.Stop.out ?_)))
local macro_rules | `(tactic| walk_at "subscriptTail Name Slice ref ref") => `(tactic| (k_here; (with_reducible show wpAny _ _ (subscriptTail _ _ (Value.ref _) (Value.ref _)) _ _ _); with_unfolding_all (refine slice_tuple_from (by assumption) (by assumption) (News.isTup (by assumption) (by k_mem)) (by decide) (Nat.le_of_ble_eq_true rfl) ?_); intro h' F' N'))
namespace Mine
theorem named_spec (w : World) (v : Value) (r : RowD) (news : Led) (hr : RowAt w news v r) :
    Spec w 1 103 [v] news (NewInts news r.goals) := by
  unfold Spec
  intro mean mg mb dp un gd cn cs a ccd cl outer A₀ base h₀ L m s Q E B F X N T hk hdp hun hret
  (have _ : (PySem.Challenge.rw_sa0141_01 = PySem.Challenge.rw_sa0141_01) ∧ (HD.heap_39 = HD.heap_39) := by k_fill; exact ⟨rfl, rfl⟩)
  refine wpAny_call ?_
  ((with_reducible refine Mine.hide fun G9 hG9 => ?_); obtain ⟨av, t, rest, n, rfl, hm, hcl⟩ := row_class hr; refine hG9 ?_; clear hG9 G9)
  clear hr
  generalize r.goals = goals at hcl hret
  generalize Str.ofString r.name = nm at hm hcl
  k_dflt cell_enter
  rename Fr _ _ _ _ => F0
  have F1 : Fr _ _ _ (fun y => List.lookup y [(Str.ofString "row", .ref av)]) := F0
  clear F0
  refine any_toks fun tk0 => ?_
  k_steps
  by_cases h1 : (List.any [Str.ofString "try", Str.ofString "retry", Str.ofString "trust"] fun x => x == nm) = true
  · refine Stop.mk (ite_yes h1 ?_)
    cases hcl with
    | one _ hm1 =>
      clear hm
      k_steps
      exact hret _ _ _ _ (by k_asm) (by k_asm) ⟨_, _, _, rfl, .head _, .cons _ _ .nil, by walk_at "m:sub", by walk_at "m:lt"⟩
    | plain h => rw [h1] at h; cases h
    | sot h => rw [h1] at h; cases h
    | tab h => rw [h1] at h; cases h
  refine Stop.mk (ite_no (Bool.eq_false_iff.mpr h1) ?_)
  k_steps
  by_cases h2 : (nm == Str.ofString "switch_on_term") = true
  · refine Stop.mk (ite_yes h2 ?_)
    cases hcl with
    | sot _ _ hm1 =>
      clear hm
      k_steps
      exact hret _ _ _ _ (by k_asm) (by k_asm) ⟨_, _, _, rfl, .head _, .cons _ _ (.cons _ _ (.cons _ _ (.cons _ _ .nil))), by walk_at "m:sub", by walk_at "m:lt"⟩
    | one h => exact absurd h h1
    | plain _ h => rw [h2] at h; cases h
    | tab _ h => rw [h2] at h; cases h
  refine Stop.mk (ite_no (Bool.eq_false_iff.mpr h2) ?_)
  k_steps
  by_cases h3 : (List.any [Str.ofString "switch_on_constant", Str.ofString "switch_on_structure"] fun x => x == nm) = true
  · refine Stop.mk (ite_yes h3 ?_)
    cases hcl with
    | tab _ _ _ hm1 hg hD =>
      clear hm
      ((with_reducible refine Mine.hide fun G9 hG9 => ?_); obtain ⟨od, es, ep, hmd, hxd, hdd, lod, hsz, hget⟩ := hD; refine hG9 ?_; clear hG9 G9)
      k_steps
      refine ev_method (by assumption) (by k_mem) hxd ?_
      k_steps
      refine ev_view (by k_asm) (by k_asm) (by k_mem) hxd lod fun dv h' F' N' hl => ?_
      k_steps
      refine ev_list rfl (by k_asm) (by k_asm) (.head _) (by k_mem) hxd hdd (by omega) fun dl c h'' tk'' F'' N'' hl' => ?_
      have hI := vals_ints hsz hget
      k_steps
      exact hret _ _ _ _ (by k_asm) (by k_asm) ⟨_, _, _, rfl, .head _, by assumption, by walk_at "m:sub", by walk_at "m:lt"⟩
    | one h => exact absurd h h1
    | plain _ _ h => rw [h3] at h; cases h
    | sot _ h => exact absurd h h2
  refine Stop.mk (ite_no (Bool.eq_false_iff.mpr h3) ?_)
  k_steps
  cases hcl with
  | plain => exact hret _ _ _ _ (by k_asm) (by k_asm) ⟨_, _, _, rfl, .head _, .nil, by walk_at "m:sub", by walk_at "m:lt"⟩
  | one h => exact absurd h h1
  | sot _ h => exact absurd h h2
  | tab _ _ h => exact absurd h h3
end Mine
end
namespace Mine
section
variable {M : Model} {A : Around} {E : Value → Shared → Prop} {env : Env}
variable {nm q : Str} {C N : Addr} {bs bm : List Value} {hdct : Bool} {sn : List Str} {sub : List Value} {ab : Bool} {col : Option Bool} {dd : Option Addr} {k0 k1 k2 k3 k5 : Option Value} {B newId initId : String}
theorem raise_made {s : Shared} {x : Sem Value} {Q : Flow → Shared → Prop} (hbase : bm.contains (.type "BaseException") = true) (hh : A.handled = none)
    (h : wpAny M A x (fun v s₁ => ∃ e dx sl t, v = .ref e ∧ s₁.heap.get? C = some (excClassObj nm q C N bs bm hdct sn sub ab col dd k0 k1 k2 k3 k5 newId) ∧
      s₁.heap.get? e = some { cls := .ref C, dict := dx, data := .fields #[.ref t, .none, .none, .none, .bool false, .none], slots := sl } ∧ E (.ref e) s₁) E s) :
    wpAny M A (raiseStmt env (some x) none) Q E s := by
  have hcB : (Value.ref C :: bm).contains (.type "BaseException") = true := by rw [List.contains_cons, hbase, Bool.or_true]
  unfold raiseStmt
  refine wpAny_bind (wpAny_mono h (fun v s₁ h₁ => ?_) fun _ _ x => x)
  ((with_reducible refine Mine.hide fun G9 hG9 => ?_); obtain ⟨e, dx, sl, t, rfl, hC, he, hE⟩ := h₁; refine hG9 ?_; clear hG9 G9)
  ((with_reducible refine Mine.hide fun G9 hG9 => ?_); obtain ⟨hp, g, d, tk, os⟩ := s₁; refine hG9 ?_; clear hG9 G9)
  repeat (first | with_reducible refine wpAny_loadPart_at he ?_ | with_reducible refine wpAny_loadPart_at hC ?_ | (with_reducible refine wpAny_isSubtype_exc hC ?_; rw [hcB]) | wp_step)
  exact wpAny_raiseNew_none hh hE
end
section
variable {prog : Program} {w : World} {A : Around} {E : Value → Shared → Prop} {h : Heap} {g : Array GenState} {d : Drawn} {t : Nat} {os : OsState}
variable {nm q : Str} {C N : Addr} {bs bm bmB : List Value} {hdct : Bool} {sn : List Str} {sub : List Value} {ab : Bool} {col : Option Bool} {dd : Option Addr} {k0 k1 k2 k3 k5 : Option Value} {B Bn newId nid initId inN : String} {bmN : List Value}
theorem type_call_init (Fn : ExcBaseFacts Bn newId inN bmN) (hBn : bmB.contains (.type Bn) = true) (F : ExcBaseFacts B nid initId bmB) (T : OwnTail h bmB bm) {mN : Str → Option Value} {rest : List Value} {fI : Addr} {oI : Obj} {Q : Fin → Shared → Prop}
    (hC : h.get? C = some (excClassObj nm q C N bs bm hdct sn sub ab col dd k0 k1 k2 k3 k5 newId)) (hn : h.Ns N mN) (hi : mN "__init__" = some (.ref fI))
    (hfI : h.get? fI = some oI) (hfc : oI.cls = .type "function")
    (hq : ∀ h' e, Heap.MadeExcOf h h' e (.ref C) rest →
      wpAny (model prog w) A (call (.ref fI) (.ref e :: rest)) (fun r s' => r = .none ∧ Q (.done (.ret (.ref e))) s') E ⟨h', g, d, t, os⟩) (hrest : rest.length ≤ sizeLine := by size_fits) :
    wpAny (model prog w) A (Builtin.«type.__call__» ⟨.ref C :: rest, []⟩) Q E ⟨h, g, d, t, os⟩ := by
  repeat (first | with_reducible refine wpAny_loadPart_at hC ?_ | with_reducible refine wpAny_madeBy_exc hC ?_ | wp_step)
  refine codeAny_call_builtin_code (Code.quiet_builtin _ Fn.quiet) (wpAny_check_new_subU Fn hBn T hC ?_)
  refine codeAny_exc_new_subU Fn hBn F T hC ?_ hrest
  show wpAny _ _ _ _ _ _
  have hC₁ := Heap.get?_push_of_some { cls := .ref C, data := .fields #[.ref h.objs.size, .none, .none, .none, .bool false, .none] }
    (Heap.get?_push_of_some { cls := .type "tuple", data := .seq rest.toArray } hC)
  have hfI₁ := Heap.get?_push_of_some { cls := .ref C, data := .fields #[.ref h.objs.size, .none, .none, .none, .bool false, .none] }
    (Heap.get?_push_of_some { cls := .type "tuple", data := .seq rest.toArray } hfI)
  have hn₁ : ((h.push { cls := .type "tuple", data := .seq rest.toArray }).push { cls := .ref C, data := .fields #[.ref h.objs.size, .none, .none, .none, .bool false, .none] }).Ns N mN :=
    let ⟨o, es, ep, e, r⟩ := hn; ⟨o, es, ep, Heap.get?_push_of_some _ (Heap.get?_push_of_some _ e), r⟩
  have hget : ((h.push { cls := .type "tuple", data := .seq rest.toArray }).push
      { cls := .ref C, data := .fields #[.ref h.objs.size, .none, .none, .none, .bool false, .none] }).get? (h.objs.size + 1) = some
      { cls := .ref C, data := .fields #[.ref h.objs.size, .none, .none, .none, .bool false, .none] } := by heap_get
  have hcC : (Value.ref C :: bm).contains (.ref C) = true := by simp
  have T₁ := T.keeps (h' := (h.push { cls := .type "tuple", data := .seq rest.toArray }).push { cls := .ref C, data := .fields #[.ref h.objs.size, .none, .none, .none, .bool false, .none] })
    fun b o e => Heap.get?_push_of_some _ (Heap.get?_push_of_some _ e)
  unfold isInstance
  repeat (first | with_reducible refine wpAny_loadPart_at hget ?_ | (with_reducible refine wpAny_isSubtype_exc hC₁ ?_; rw [hcC]) | wp_step)
  show wpAny _ _ (typeLookup (.ref C) _) _ _ _
  refine wpAny_typeLookup_tail hC₁ hn₁ T₁ F.mroIs F.init.lookup ?_
  rw [hi]
  refine wpAny_holding (wpAny_bind ?_)
  unfold bindSpecial
  refine wpAny_bind (wpAny_typeOf (T := "function") ⟨_, hfI₁, hfc⟩ ?_)
  rw [if_pos (by decide)]
  refine wpAny_pure (wpAny_bind (wpAny_mono (hq _ (h.objs.size + 1) ⟨fun b o hb => Heap.get?_push_of_some _ (Heap.get?_push_of_some _ hb), Heap.get?_none_of_le (Nat.le_succ _), h.objs.size, hget, Heap.get?_none_of_le (Nat.le_refl _), ?_⟩) (fun r s' hr => ?_) fun _ _ x => x))
  · exact Heap.get?_push_of_some _ (Heap.get?_push_at rfl rfl)
  · obtain ⟨rfl, hQ⟩ := hr
    wp_walk
    exact hQ
theorem call_exc_init (Fn : ExcBaseFacts Bn newId inN bmN) (hBn : bmB.contains (.type Bn) = true) (F : ExcBaseFacts B nid initId bmB) (T : OwnTail h bmB bm) {mN : Str → Option Value} {rest : List Value} {fI : Addr} {oI : Obj} {Q : Value → Shared → Prop}
    (hC : h.get? C = some (excClassObj nm q C N bs bm hdct sn sub ab col dd k0 k1 k2 k3 k5 newId)) (hn : h.Ns N mN) (hi : mN "__init__" = some (.ref fI))
    (hfI : h.get? fI = some oI) (hfc : oI.cls = .type "function")
    (hq : ∀ h' e, Heap.MadeExcOf h h' e (.ref C) rest →
      wpAny (model prog w) (A.under (.builtin "type.__call__" ⟨.ref C :: rest, []⟩)) (call (.ref fI) (.ref e :: rest)) (fun r s' => r = .none ∧ Q (.ref e) s') E ⟨h', g, d, t, os⟩) (hrest : rest.length ≤ sizeLine := by size_fits) :
    wpAny (model prog w) A (call (.ref C) rest) Q E ⟨h, g, d, t, os⟩ := by
  have f1 := tc_lookup
  have f2 := tc_bind (.ref C)
  have hT : (⟨h, g, d, t, os⟩ : Shared).TypeIs (.ref C) "type" := ⟨_, hC, rfl⟩
  refine wpAny_call (codeAny_of_tree ?_)
  show wpAny _ _ (callAny (.ref C) _) _ _ _
  repeat (any_goals (first | assumption | with_reducible refine wpAny_loadPart_at hC ?_ | wp_step))
  refine ⟨rfl, ?_⟩
  refine codeAny_call_builtin_at (Code.quiet_builtin _ (by decide +kernel)) entry_typeCall (wpAny_check_type_call_sub hC (type_call_init (hrest := hrest) Fn hBn F T hC hn hi hfI hfc fun h' e hm => ?_))
  exact hq h' e hm
end
section
variable {prog : Program} {w : World} {A : Around} {E : Value → Shared → Prop} {s : Shared} {env : Env}
variable {nm q : Str} {C N : Addr} {bs bm bmB : List Value} {hdct : Bool} {sn : List Str} {sub : List Value} {ab : Bool} {col : Option Bool} {dd : Option Addr} {k0 k1 k2 k3 k5 : Option Value} {B Bn newId nid initId inN : String} {bmN : List Value}
theorem Raise_call_init (Fn : ExcBaseFacts Bn newId inN bmN) (hBn : bmB.contains (.type Bn) = true) (F : ExcBaseFacts B nid initId bmB) {mN : Str → Option Value} {x : Str} {np cpos pos : Pos} {args : List PySem.Expr} {Q : Flow → Shared → Prop} {fI : Addr} {oI : Obj}
    (hbase : bm.contains (.type "BaseException") = true) (hh : A.handled = none) (hplain : (backTo cpos (starEach args env)).any (·.1) = false) (hni : mN "__init__" = some (.ref fI)) (hfc : oI.cls = .type "function")
    (h : wpAny (model prog w) A (eval (.Name x np) env) (fun f s₁ => f = .ref C ∧ wpAny (model prog w) A (evalArgs (.ref C) true (backTo cpos (starEach args env)) [])
      (fun a s₂ => a.kw = [] ∧ a.pos.length ≤ sizeLine ∧ s₂.heap.get? C = some (excClassObj nm q C N bs bm hdct sn sub ab col dd k0 k1 k2 k3 k5 newId) ∧ s₂.heap.Ns N mN ∧ OwnTail s₂.heap bmB bm ∧ s₂.heap.get? fI = some oI ∧
        ∀ h' e, Heap.MadeExcOf s₂.heap h' e (.ref C) a.pos →
          wpAny (model prog w) (A.under (.builtin "type.__call__" ⟨.ref C :: a.pos, []⟩)) (call (.ref fI) (.ref e :: a.pos)) (fun r s' => r = .none ∧ ∃ dx sl t,
            s'.heap.get? C = some (excClassObj nm q C N bs bm hdct sn sub ab col dd k0 k1 k2 k3 k5 newId) ∧ s'.heap.get? e = some { cls := .ref C, dict := dx, data := .fields #[.ref t, .none, .none, .none, .bool false, .none], slots := sl } ∧ E (.ref e) s') E { s₂ with heap := h' }) E s₁) E s) :
    wpAny (model prog w) A (exec (.Raise (some (.Call (.Name x np) args [] cpos)) none pos) env) Q E s := by
  rw [arm_exec_Raise]
  first
    | refine wpAny_bind (wpAny_standAt (raise_made (C := C) (nm := nm) (q := q) (N := N) (bs := bs) (bm := bm) (hdct := hdct) (sn := sn) (sub := sub) (ab := ab) (col := col) (dd := dd) (k0 := k0) (k1 := k1) (k2 := k2) (k3 := k3) (k5 := k5) (newId := newId) hbase hh (wpAny_bind (wpAny_mono (wpAny_Call_ofName (wpAny_mono h (fun f s₁ h₁ => ?_) fun _ _ x => x)) (fun v s₃ h₃ => wpAny_bind (wpAny_standAt (wpAny_pure h₃))) fun _ _ x => x))))
    | (simp only [evalOpt, Option.map]; refine wpAny_bind (wpAny_standAt (raise_made (C := C) (nm := nm) (q := q) (N := N) (bs := bs) (bm := bm) (hdct := hdct) (sn := sn) (sub := sub) (ab := ab) (col := col) (dd := dd) (k0 := k0) (k1 := k1) (k2 := k2) (k3 := k3) (k5 := k5) (newId := newId) hbase hh (wpAny_bind (wpAny_mono (wpAny_Call_ofName (wpAny_mono h (fun f s₁ h₁ => ?_) fun _ _ x => x)) (fun v s₃ h₃ => wpAny_bind (wpAny_standAt (wpAny_pure h₃))) fun _ _ x => x)))))
  obtain ⟨rfl, h₁⟩ := h₁
  unfold callWith
  refine wpAny_bind (wpAny_holding (wpAny_mono h₁ (fun a s₂ h₂ => wpAny_bind (wpAny_standAt ?_)) fun _ _ x => x))
  obtain ⟨apos, akw⟩ := a
  ((with_reducible refine Mine.hide fun G9 hG9 => ?_); obtain ⟨hkw, hlen, hC, hn, T, hfI, h₂⟩ := h₂; refine hG9 ?_; clear hG9 G9)
  obtain rfl : akw = [] := hkw
  ((with_reducible refine Mine.hide fun G9 hG9 => ?_); obtain ⟨hp, g, d, tk, os⟩ := s₂; refine hG9 ?_; clear hG9 G9)
  simp only [hplain]
  refine wpAny_bind (wpAny_keeperOf_exc hC ?_)
  refine wpAny_bind (call_exc_init (hrest := hlen) Fn hBn F T hC hn hni hfI hfc fun h' e hm => wpAny_mono (h₂ h' e hm) (fun r s' hr => ⟨hr.1, wpAny_bind (wpAny_holding (wpAny_point (wpAny_pure ?_)))⟩) fun _ _ x => x)
  ((with_reducible refine Mine.hide fun G9 hG9 => ?_); obtain ⟨_, dx, sl, t, y1, y2, y3⟩ := hr; refine hG9 ?_; clear hG9 G9)
  exact ⟨e, dx, sl, t, rfl, y1, y2, y3⟩
end
end Mine
section
open Builtin Builtin.ObjectAttr
namespace Mine
abbrev bmE : List Value := [.type "Exception", .type "BaseException", .type "object"]
theorem lf_obj {P : PySem.Params} {h : Heap} (X : (HD.heap_39 P).In h) : ∃ nm qn bs sn sub ab col dd k0 k1 k2 k3 k5, h.get? 45 = some (excClassObj nm qn 45 44 bs (.ref 24 :: bmE) true sn sub ab col dd k0 k1 k2 k3 k5 "Exception.__new__") :=
  ⟨_, _, _, _, _, _, _, _, _, _, _, _, _, X 45 _ rfl⟩
theorem ns_some_of {K : Frag} {h : Heap} {N : Addr} {mg : Str → Option Value} {n : Str} {v : Value} (X : K.In h) (G : h.Ns N mg) (e : nsIn K N n = some (some v)) : mg n = some v := by
  obtain ⟨o, es, ep, ho, hd, _, hf⟩ := G
  unfold nsIn at e
  split at e
  · rename_i c d es' n' sl q
    have := X _ _ q
    rw [ho] at this
    cases this
    cases hd
    split at e
    · rename_i en he
      rw [← hf]
      unfold nsFind findBy
      rw [← Array.find?_toList, he]
      cases e; rfl
    · split at e <;> cases e
  · cases e
theorem lf_ns {P : PySem.Params} {h : Heap} (X : (HD.heap_39 P).In h) : ∃ mN, h.Ns 44 mN ∧ mN "__init__" = some (.ref 42) :=
  have ok : nsOkIn (HD.heap_39 P) 44 = true := by first | with_unfolding_all rfl | (unfold nsOkIn; rw [show (HD.heap_39 P).lookup 44 = _ from rfl]; rw [← Array.all_toList]; with_unfolding_all rfl)
  ⟨_, .of_isNs (isNs_of_in X ok), ns_some_of X (.of_isNs (isNs_of_in X ok)) rfl⟩
theorem lf_tail {P : PySem.Params} {h : Heap} (X : (HD.heap_39 P).In h) : OwnTail h bmE (.ref 24 :: bmE) := tail_of_in X (by first | with_unfolding_all rfl | ((have _ : (PySem.Challenge.rw_sa0141_01 = PySem.Challenge.rw_sa0141_01) ∧ (HD.heap_39 = HD.heap_39) := by k_fill; exact ⟨rfl, rfl⟩); k_is))
theorem lf_fn {P : PySem.Params} {h : Heap} (X : (HD.heap_39 P).In h) : ∃ oI, h.get? 42 = some oI ∧ oI.cls = .type "function" := ⟨_, X 42 _ rfl, rfl⟩
theorem lf_set {P : PySem.Params} : findIn (HD.heap_39 P) (.ref 45) "__setattr__" = some (some (.builtin "object.__setattr__")) := by rfl
theorem lf_what {P : PySem.Params} : findIn (HD.heap_39 P) (.ref 45) "what" = some none := by rfl
theorem lf_cls {P : PySem.Params} : ∃ cd, clsIn (HD.heap_39 P) 45 = some cd ∧ cd.mro = .ref 45 :: .ref 24 :: bmE ∧ cd.hasDict = true := ⟨_, rfl, rfl, rfl⟩
section
variable {prog : Program} {w : World} {A : Around} {E : Value → Shared → Prop} {s : Shared} {K : Frag} {x C L : Addr} {h₀ : Heap} {m : Str → Option Value} {news : Led} {v : Value} {R : Result → Shared → Prop}
theorem osa_openE {ox : Obj} {od : Option Obj} {name : Str} {tk : Tok} {cd : ClassData} {r : Option Value} (X : K.In s.heap) (I : InstAt s.heap x ox C od) (hc : clsIn K C = some cd) (ho : cd.mro.contains (.type "object") = true) (hne : cd.mro.isEmpty = false)
    (hp : refuseLoop (.ref x) "__setattr__" cd.mro = pure ()) (ht : takerIn K C name = some r)
    (h : ∀ b, wpAny (model prog w) A.in1 (match r with | some a => setByDescriptor a (.ref x) v | none => storeInOwnDict (.ref x) (.ref C) (.str name tk) name v b)
      (fun fin s' => match fin with | .done f => R (.ok f) s' | .again c' => c'.quiet = true ∧ codeAny (model prog w) A c' R s') (fun e s' => R (.error e) s') s) :
    codeAny (model prog w) A (.call (.builtin "object.__setattr__") ⟨[.ref x, .str name tk, v], []⟩) R s := by
  have SF := PySem.F.store_object
  have sub : Looks (model prog w) s.heap (isInstance (.ref x) (.type "object")) true := I.type.andThen (looks_mroIn X (by unfold mroIn; rw [hc, Option.bind_some, if_neg (by rw [hne]; decide), ho]))
  refine codeAny_call_builtin SF.slot.plain SF.entry (@check_slot (model prog w) _ _ s "object.__setattr__" "object" "__setattr__" (.ref x) [.str name tk, v] [] _ SF.kind SF.split sub (SF.args (.ref x) (.str name tk) v) ?_)
  obtain ⟨attr, ha, hr⟩ := Option.bind_eq_some_iff.mp ht
  have hm : Looks (model prog w) s.heap (mroOf (.ref C)) cd.mro := (looks_clsIn X hc).andThen .now
  have L3 : Looks (model prog w) s.heap (storeTaker? attr) r := by
    cases attr with
    | none => cases hr; exact .now
    | some a =>
      obtain ⟨b, hb, rfl⟩ := Option.map_eq_some_iff.mp hr
      refine (looks_takesIn X hb).andThen ?_
      cases b <;> exact .now
  rw [osa_eq, refuse_eq]
  refine wpAny_bind (wpAny_bind (I.type.here (wpAny_bind (hm.here ?_))))
  rw [hp]
  refine wpAny_pure (wpAny_bind (I.type.here (wpAny_bind ((looks_findIn X ha).here (wpAny_bind (L3.here ?_))))))
  exact h _
theorem osa_new {oda : Data} {osl : Array (Option Value)} {name : Str} {tk : Tok} {cd : ClassData} (F : Fr h₀ L s.heap m) (N : News h₀ L s.heap ((x, { cls := .ref C, data := oda, slots := osl }) :: news)) (X : K.In s.heap)
    (hn : ∀ p ∈ news, p.1 ≠ x) (hnc : ∀ c, oda ≠ .cls c) (hfr : ({ cls := .ref C, data := oda, slots := osl } : Obj).isFreed = false) (hfd : ∃ vs, oda = .fields vs)
    (hc : clsIn K C = some cd) (ho : cd.mro.contains (.type "object") = true) (hne : cd.mro.isEmpty = false) (hd' : cd.hasDict = true)
    (hp : refuseLoop (.ref x) "__setattr__" cd.mro = pure ()) (ht : takerIn K C name = some none)
    (h : ∀ h' tk' dx o, Fr h₀ L h' m → News h₀ L h' ((x, { cls := .ref C, dict := some dx, data := oda, slots := osl }) :: (dx, o) :: news) → R (.ok (.ret .none)) { s with heap := h', toks := tk' }) :
    codeAny (model prog w) A (.call (.builtin "object.__setattr__") ⟨[.ref x, .str name tk, v], []⟩) R s := by
  have hx := (N _ (.head _)).1
  have I : InstAt s.heap x { cls := .ref C, data := oda, slots := osl } C none := ⟨hx, rfl, by obtain ⟨vs, rfl⟩ := hfd; rfl, trivial⟩
  refine osa_openE X I hc ho hne hp ht fun b => ?_
  obtain ⟨vs, rfl⟩ := hfd
  refine wpAny_bind (wpAny_pure (wpAny_bind (wpAny_bind (wpAny_loadPart hx (wpAny_bind ((looks_clsIn X hc).here ?_))))))
  rw [hd']
  ((with_reducible refine Mine.hide fun G9 hG9 => ?_); obtain ⟨hp0, g, d, t, os⟩ := s; refine hG9 ?_; clear hG9 G9)
  dsimp only at hx
  have hx₁ : (hp0.push { cls := .type "dict", data := .dict #[] }).get? x = some { cls := .ref C, data := .fields vs, slots := osl } := Heap.get?_push_of_some _ hx
  have hxs : x ≠ hp0.objs.size := Nat.ne_of_lt (Heap.lt_size hx)
  refine wpAny_bind (wpAny_alloc' ?_)
  refine wpAny_bind (wpAny_update' hx₁ ?_)
  refine wpAny_pure ?_
  have hgd : ((hp0.push { cls := .type "dict", data := .dict #[] }).update x fun o => { cls := o.cls, dict := some hp0.objs.size, data := o.data, slots := o.slots }).get? hp0.objs.size
      = some { cls := .type "dict", data := .dict #[] } :=
    (Heap.get?_update_ne _ _ _ _ hxs.symm).trans (Heap.get?_push_at rfl rfl)
  have hnd : ((hp0.push { cls := .type "dict", data := .dict #[] }).update x fun o => { cls := o.cls, dict := some hp0.objs.size, data := o.data, slots := o.slots }).Ns hp0.objs.size (fun _ => none) :=
    ⟨_, #[], _, hgd, rfl, fun e he => absurd he (by simp), fun _ => rfl⟩
  show wpAny _ _ (storeInDict hp0.objs.size (.str name tk) name v) _ _ _
  unfold storeInDict newKeyGuard
  refine wpAny_bind (wpAny_pure (wpAny_bind (wpAny_nsSet1 (Heap.Ns1.of_empty hnd) fun h' hn' hs => ?_)))
  ((with_reducible refine Mine.hide fun G9 hG9 => ?_); obtain ⟨oD, esD, epD, hoD, hdD, hcD⟩ := hn'.count (Within.cons name v Within.nil); refine hG9 ?_; clear hG9 G9)
  refine wpAny_bind (wpAny_lookBehind hoD (by rw [hdD]; exact pastItsLine_dict (Nat.le_trans hcD (by rw [List.length_cons, List.length_nil, sizeLine_eq]; omega))) ?_)
  have hx' : h'.get? x = some { cls := .ref C, dict := some hp0.objs.size, data := .fields vs, slots := osl } := (hs.2 x hxs).trans (Heap.get?_update_self _ hx₁ rfl)
  have keep : ∀ b o, b ≠ x → hp0.get? b = some o → h'.get? b = some o := fun b o hb e => (hs.2 b (Nat.ne_of_lt (Heap.lt_size e))).trans ((Heap.get?_update_ne _ _ _ _ hb).trans (Heap.get?_push_of_some _ e))
  have hxL : L ≠ x := fun q => (N _ (.head _)).2.1 q.symm
  have hx0 : h₀.get? x = none := (N _ (.head _)).2.2
  have F' : Fr h₀ L h' m := by
    ((with_reducible refine Mine.hide fun G9 hG9 => ?_); obtain ⟨⟨oL, es, ep, hL, r⟩, hk, ha⟩ := F; refine hG9 ?_; clear hG9 G9)
    exact ⟨⟨oL, es, ep, keep _ _ hxL hL, r⟩, fun b o e => keep b o (fun q => by rw [q, hx0] at e; cases e) (hk b o e), ha⟩
  refine wpAny_pure (h h' _ hp0.objs.size oD F' ?_)
  intro p hp
  rcases List.mem_cons.mp hp with rfl | hp
  · exact ⟨hx', (N _ (.head _)).2.1, hx0⟩
  rcases List.mem_cons.mp hp with rfl | hp
  · refine ⟨hoD, fun q => ?_, ?_⟩
    · ((with_reducible refine Mine.hide fun G9 hG9 => ?_); obtain ⟨⟨oL, es, ep, hL, _⟩, _, _⟩ := F; refine hG9 ?_; clear hG9 G9)
      exact Nat.ne_of_lt (Heap.lt_size hL) q.symm
    · cases q : h₀.get? hp0.objs.size with
      | none => rfl
      | some o => exact absurd (Heap.lt_size (F.keep _ _ q)) (Nat.lt_irrefl _)
  · have n := N p (.tail _ hp)
    exact ⟨keep _ _ (hn p hp) n.1, n.2⟩
end
theorem lf_refuse {P : PySem.Params} {x : Addr} {cd : ClassData} (h : cd.mro = .ref 45 :: .ref 24 :: bmE) : Builtin.ObjectAttr.refuseIfOverridden (.ref x) "__setattr__" = Builtin.ObjectAttr.refuseIfOverridden (.ref x) "__setattr__" ∧ refuseLoop (.ref x) "__setattr__" cd.mro = pure () := by
  refine ⟨rfl, ?_⟩
  rw [h, refuseLoop_ref, refuseLoop_ref]
  exact PySem.F.store_Exception.passes _
abbrev excO (t : Addr) : Obj := { cls := .ref 45, data := .fields #[.ref t, .none, .none, .none, .bool false, .none] }
theorem init_walk {w : World} {mean : ExcName → Option Value} {mg mb : Str → Option Value} {dp un : Nat} {gd : Option (List Code)} {cn : Str} {cs : Scope} {a : Addr} {ccd : Value} {cl : List (Str × Addr)} {outer : List Env} {A₀ : Around} {base h₀ : Heap} {L : Addr} {m : Str → Option Value} {s : Shared} {Q E : Value → Shared → Prop}
    {news : Led} {e t : Addr} {tx : Str} {tkx : Tok} (B : Below A₀ base outer h₀) (F : Fr h₀ L s.heap m) (X : (HD.heap_39 w.params).In h₀) (N : News h₀ L s.heap ((e, excO t) :: news)) (T : Top HD.view_39 (looseW HD.view_39 [Str.ofString "LinkFault"]) mean mg mb h₀) (hk : cs.kind = .function)
    (hdp : dp + 1 < recursionLimit) (hu : un + 100 * 1 < cLine) (hn : ∀ p ∈ news, p.1 ≠ e)
    (ret : ∀ h' tk' dx o, Fr h₀ L h' m → News h₀ L h' ((e, { cls := .ref 45, dict := some dx, data := .fields #[.ref t, .none, .none, .none, .bool false, .none] }) :: (dx, o) :: news) → Q .none { s with heap := h', toks := tk' }) :
    wpAny (model PG w) ((ktrTop dp un gd cn cs L a ccd cl outer).under (.builtin "type.__call__" ⟨.ref 45 :: [.str tx tkx], []⟩)) (call (.ref 42) [.ref e, .str tx tkx]) Q E s := by
  (have _ : (PySem.Challenge.rw_sa0141_01 = PySem.Challenge.rw_sa0141_01) ∧ (HD.heap_39 = HD.heap_39) := by k_fill; exact ⟨rfl, rfl⟩)
  refine wpAny_call ?_
  k_dflt ((refine' code_def ?k1 ?k2 ?k3 ?k4 ?k5 ?kA ?kF ?kK ?k6 ?k7 ?k8 ?k9 ?kB ?_ ?c2 ?c3 ?c4 ?c5; (case kA => exact rfl); (case kF => exact rfl); (case kK => assumption); (case k1 => k_asm); (case k2 => k_asm); (case k3 => k_asm); (case k4 => k_asm); (case k5 => k_asm); (case k6 => k_is); (case k7 => k_is); (case k8 => ktr_room); (case k9 => exact binds_K (by k_in) rfl (by k_is) rfl rfl rfl); (case c5 => decide); (case kB => exact locs rfl); (case c2 => exact rfl); (case c3 => exact rfl); (case c4 => exact rfl); k_whole; intro g' L' h' FG' F' N' B' X' T'; (try dsimp only); (try k_lift B'); (try k_fold)))
  rename Fr _ _ _ _ => F0
  have F1 : Fr _ _ _ (fun y => List.lookup y [(Str.ofString "what", .str tx tkx), (Str.ofString "self", .ref e)]) := F0
  clear F0
  k_steps
  rename News _ _ _ _ => N1
  ((with_reducible refine Mine.hide fun G9 hG9 => ?_); obtain ⟨cd, hc1, hc2, hc3⟩ := @lf_cls w.params; refine hG9 ?_; clear hG9 G9)
  have X1 : (HD.heap_39 w.params).In _ := (by assumption : (HD.heap_39 w.params).In _).keeps (Fr.keep F1)
  refine set_plain (od := none) X1 ⟨(N1 _ (.head _)).1, rfl, rfl, trivial⟩ lf_set (osa_new F1 N1 X1 hn (by intro c q; cases q) rfl ⟨_, rfl⟩ hc1 (by rw [hc2]; rfl) (by rw [hc2]; rfl) hc3 (lf_refuse (P := w.params) hc2).2 (by unfold takerIn; rw [lf_what]; rfl) fun h' tk' dx o F9 N9 => ?_)
  clear F1 N1
  dsimp only
  k_steps
  exact ret _ _ _ _ (by assumption) (by assumption)
theorem raise_fault {w : World} {mean : ExcName → Option Value} {mg mb : Str → Option Value} {dp un : Nat} {gd : Option (List Code)} {cn : Str} {cs : Scope} {a : Addr} {ccd : Value} {outer : List Env} {A₀ : Around} {base h₀ : Heap} {L : Addr} {m : Str → Option Value} {s : Shared} {Q : Flow → Shared → Prop} {E : Value → Shared → Prop}
    {news : Led} {tx : String} {kk : Nat} {np cp cpos pos : Pos} (B : Below A₀ base outer h₀) (F : Fr h₀ L s.heap m) (X : (HD.heap_39 w.params).In h₀) (N : News h₀ L s.heap news) (T : Top HD.view_39 (looseW HD.view_39 [Str.ofString "LinkFault"]) mean mg mb h₀) (hk : cs.kind = .function)
    (hdp : dp + 3 < recursionLimit) (hu : un + 100 * 3 < cLine) (hx : (envOf cn cs L a ccd).kindOf "LinkFault" = some .globalImplicit)
    (hE : ∀ h' tk' e t d o tkx, e ≠ t → (∀ p ∈ news, p.1 ≠ e ∧ p.1 ≠ t) → Fr h₀ L h' m → News h₀ L h' ((e, { cls := .ref 45, dict := some d, data := .fields #[.ref t, .none, .none, .none, .bool false, .none] }) :: (d, o) :: (t, { cls := .type "tuple", data := .seq #[S tx tkx] }) :: news) → E (.ref e) { s with heap := h', toks := tk' }) :
    wpAny (model PG w) (ktrTop dp un gd cn cs L a ccd [] outer) (exec (.Raise (some (.Call (.Name "LinkFault" np) [.Constant (.str (Str.ofString tx)) kk cp] [] cpos)) none pos) (envOf cn cs L a ccd)) Q E s := by
  (have _ : (PySem.Challenge.rw_sa0141_01 = PySem.Challenge.rw_sa0141_01) ∧ (HD.heap_39 = HD.heap_39) := by k_fill; exact ⟨rfl, rfl⟩)
  obtain ⟨mN, hN, hi⟩ := lf_ns X
  ((with_reducible refine Mine.hide fun G9 hG9 => ?_); obtain ⟨nm, qn, bs, sn, sub, ab, col, dd, k0, k1, k2, k3, k5, hC⟩ := lf_obj X; refine hG9 ?_; clear hG9 G9)
  obtain ⟨oI, hfI, hfc⟩ := lf_fn X
  have TL := lf_tail X
  refine Raise_call_init PySem.F.excBase_Exception (by decide) PySem.F.excBase_Exception (nm := nm) (q := qn) (bs := bs) (hdct := true) (sn := sn) (sub := sub) (ab := ab) (col := col) (dd := dd) (k0 := k0) (k1 := k1) (k2 := k2) (k3 := k3) (k5 := k5) (oI := oI) (bm := .ref 24 :: bmE) (C := 45) (N := 44) (by decide) rfl rfl hi hfc ?_
  refine name_K F X (topRead_of T) (v := .ref 45) (by rfl) ⟨rfl, ?_⟩ hk hx (by decide)
  show wpAny _ _ (evalArgs _ true ((false, _) :: []) []) _ _ _
  refine Calls.evalArgs_plain (Calls.spliced_cons ?_)
  rw [if_neg (by decide)]
  refine Calls.Constant_str (Calls.spliced_nil ?_)
  have k0 := F.keep
  refine ⟨rfl, by show 1 ≤ sizeLine; rw [sizeLine_eq]; omega, F.keep _ _ hC, hN.keeps F.keep, TL.keeps F.keep, F.keep _ _ hfI, fun h' e hm => ?_⟩
  ((with_reducible refine Mine.hide fun G9 hG9 => ?_); obtain ⟨t, he, htn, ht⟩ := hm.there; refine hG9 ?_; clear hG9 G9)
  dsimp only at he ht htn
  have hen : h₀.get? e = none := fresh_of_stays F.keep hm.new
  have htn0 : h₀.get? t = none := fresh_of_stays F.keep htn
  have F1 : Fr h₀ L h' m := F.keeps hm.keeps
  have N1 : News h₀ L h' ((e, excO t) :: (t, { cls := .type "tuple", data := .seq #[S tx s.toks] }) :: news) := by
    intro p hp
    rcases List.mem_cons.mp hp with rfl | hp
    · refine ⟨he, fun q => ?_, hen⟩
      ((with_reducible refine Mine.hide fun G9 hG9 => ?_); obtain ⟨⟨oL, es, ep, hL, _⟩, _, _⟩ := F; refine hG9 ?_; clear hG9 G9)
      have z := hm.new
      dsimp only at z q
      rw [q, hL] at z
      cases z
    rcases List.mem_cons.mp hp with rfl | hp
    · refine ⟨ht, fun q => ?_, htn0⟩
      ((with_reducible refine Mine.hide fun G9 hG9 => ?_); obtain ⟨⟨oL, es, ep, hL, _⟩, _, _⟩ := F; refine hG9 ?_; clear hG9 G9)
      dsimp only at q
      rw [q, hL] at htn
      cases htn
    · exact ⟨hm.keeps _ _ (N p hp).1, (N p hp).2⟩
  have hne : ∀ p ∈ (t, ({ cls := .type "tuple", data := .seq #[S tx s.toks] } : Obj)) :: news, p.1 ≠ e := by
    intro p hp q
    rcases List.mem_cons.mp hp with rfl | hp
    · dsimp only at q
      rw [q, he] at ht
      cases ht
    · have z := hm.new
      rw [← q] at z
      dsimp only at z
      rw [(N p hp).1] at z
      cases z
  have hnt : ∀ p ∈ news, p.1 ≠ t := by
    intro p hp q
    rw [← q] at htn
    rw [(N p hp).1] at htn
    cases htn
  refine init_walk (s := { s with heap := h', toks := s.toks + 1 }) B F1 X N1 T hk (by omega) (by omega) hne fun h2 tk2 dx o F2 N2 => ⟨rfl, some dx, _, t, F2.keep _ _ hC, (N2 _ (.head _)).1, hE h2 tk2 e t dx o _ (fun q => hne _ (.head _) q.symm) (fun p hp => ⟨hne p (.tail _ hp), hnt p hp⟩) F2 N2⟩
section
variable {M : Model} {A : Around} {E : Value → Shared → Prop} {s' : Shared} {base g : Heap} {outer : List Env} {L a e t d : Addr} {o : Obj} {m : Str → Option Value} {name : Str} {scope : Scope} {cd : Value} {Q : Unit → Shared → Prop} {news : Led}
theorem leave_fault {vs : List Value} {nn : Nat} (K : Below A base outer g) (F : Fr g L s'.heap m) (N : News g L s'.heap ((e, { cls := .ref 45, dict := some d, data := .fields #[.ref t, .none, .none, .none, .bool false, .none] }) :: (d, o) :: (t, { cls := .type "tuple", data := .seq vs.toArray nn }) :: news))
    (het : e ≠ t) (hne : ∀ p ∈ news, p.1 ≠ e ∧ p.1 ≠ t)
    (hQ : ∀ h', RaisedS base g outer e (.ref 45) t vs news h' → g.UpToSlots h' → Q () { s' with heap := h' }) (hk : scope.kind = .function := by rfl) :
    wpAny M (A.deeper (envOf name scope L a cd)) (leaving (envOf name scope L a cd) (.ref e)) Q E s' := by
  have K' := K.push (name := name) (a := a) (cd := cd) F hk
  have he := (N _ (.head _)).1
  have ht := (N _ (.tail _ (.tail _ (.head _)))).1
  dsimp only at he ht
  have ge : g.get? e = none := (N _ (.head _)).2.2
  have gt : g.get? t = none := (N _ (.tail _ (.tail _ (.head _)))).2.2
  have be : base.get? e = none := fresh_of_stays K.stays ge
  have bt : base.get? t = none := fresh_of_stays K.stays gt
  generalize hfs : (envOf name scope L a cd :: outer).filterMap (·.frame) = fs
  have hin : ∀ env ∈ (envOf name scope L a cd :: outer), ∀ b, env.frame = some b → b ∈ e :: t :: fs := fun env he b hb => by
    rw [← hfs]; exact .tail _ (.tail _ (List.mem_filterMap.mpr ⟨env, he, hb⟩))
  have nfe : ∀ b, b ∈ fs → b ≠ e ∧ b ≠ t := fun b hb => by
    rw [← hfs] at hb
    ((with_reducible refine Mine.hide fun G9 hG9 => ?_); obtain ⟨_, o, ho, hd⟩ := K'.frames.mem hb; refine hG9 ?_; clear hG9 G9)
    constructor
    · rintro rfl
      rw [he] at ho
      cases ho
      exact hd _ rfl
    · rintro rfl
      rcases kts_mem hb with z | z
      · exact (N _ (.tail _ (.tail _ (.head _)))).2.1 z
      · ((with_reducible refine Mine.hide fun G9 hG9 => ?_); obtain ⟨_, o, ho, hd⟩ := K.frames.mem z; refine hG9 ?_; clear hG9 G9)
        rw [gt] at ho
        cases ho
  have st : base.StaysIn (hideAll s'.heap (e :: t :: fs)) := fun b o q => hideAll_get _ (K'.stays b o q) fun hm => by
    rcases List.mem_cons.mp hm with rfl | hm
    · rw [be] at q; cases q
    rcases List.mem_cons.mp hm with rfl | hm
    · rw [bt] at q; cases q
    rw [← hfs] at hm
    rw [(K'.frames.mem hm).1] at q; cases q
  have sg : ∀ b o, g.get? b = some o → b ∉ outer.filterMap (·.frame) → (hideAll s'.heap (e :: t :: fs)).get? b = some o := fun b o q nm => hideAll_get _ (F.keep b o q) fun hm => by
    rcases List.mem_cons.mp hm with rfl | hm
    · rw [ge] at q; cases q
    rcases List.mem_cons.mp hm with rfl | hm
    · rw [gt] at q; cases q
    rw [← hfs] at hm
    rcases kts_mem hm with z | z
    · rw [z, kts_self F] at q
      cases q
    · exact nm z
  have hl : ∀ q ∈ news, (hideAll s'.heap (e :: t :: fs)).get? q.1 = some q.2 ∧ g.get? q.1 = none ∧ base.get? q.1 = none := fun q hq => by
    have n := N q (.tail _ (.tail _ (.tail _ hq)))
    refine ⟨hideAll_get _ n.1 fun hm => ?_, n.2.2, fresh_of_stays K.stays n.2.2⟩
    rcases List.mem_cons.mp hm with z | hm
    · exact (hne q hq).1 z
    rcases List.mem_cons.mp hm with z | hm
    · exact (hne q hq).2 z
    rw [← hfs] at hm
    rcases kts_mem hm with z | z
    · exact n.2.1 z
    · obtain ⟨o, ho, _⟩ := (K.frames.mem z).2
      rw [n.2.2] at ho; cases ho
  refine wpAny_leaving_firstW (a0 := .ref t) (base := hideAll s'.heap (e :: t :: fs)) (Around.frames_deeper K.stack) (funFrames_hide K'.frames hin) rfl he (fun b o q => of_hideAll _ q) (hideAll_none _ (.head _)) rfl rfl rfl fun h' hL => ?_
  ((with_reducible refine Mine.hide fun G9 hG9 => ?_); obtain ⟨k1, ⟨_, _, k2⟩, k3, k4⟩ := hL; refine hG9 ?_; clear hG9 G9)
  exact hQ h' ⟨⟨_, st, sg, hl, ⟨k1, hideAll_none _ (.head _), k2, k3⟩, hideAll_none _ (.tail _ (.head _))⟩, Heap.TupAt.of_slots ⟨_, _, ht, rfl, rfl⟩ k4⟩ ((Heap.UpToSlots.of_keeps F.keep).trans k4)
end
end Mine
end
namespace Mine
end Mine
local macro_rules | `(tactic| walk_at "call ref") => `(tactic| ((with_reducible show wpAny _ _ (call (Value.ref _) _ _) _ _ _); refine Mine.Stop.out ?_))
namespace Mine
theorem While_stop {prog : Program} {w : World} {A : Around} {E : Value → Shared → Prop} {s : Shared} {env : Env} {test : PySem.Expr} {body orelse : List Stmt} {pos : Pos} {Q : Flow → Shared → Prop}
    (h : Stop (wpAny (model prog w) A (exec (.While test body orelse pos) env) Q E s)) : wpAny (model prog w) A (exec (.While test body orelse pos) env) Q E s := h.out
end Mine
local macro_rules | `(tactic| walk_at "exec While") => `(tactic| (refine Mine.While_stop ?_))
local macro_rules | `(tactic| walk_at "exec While Compare") => `(tactic| (refine Mine.While_stop ?_))
local macro_rules | `(tactic| walk_at "call builtin:len") => `(tactic| (k_here; (with_reducible show wpAny _ _ (call (Value.builtin "len") [Value.ref _]) _ _ _); k_dflt (refine' kst_len ?k1 ?k2 ?k3 ?k4 ?_; (case k1 => k_asm); (case k2 => k_mem); (case k3 => first | with_reducible assumption | exact rfl); (case k4 => omega))))
local macro_rules | `(tactic| walk_at "compareOp In int ref") => `(tactic| (k_here; k_dflt (refine' kda_in (knd := PySem.intKind _ _) ?k1 ?k2 ?k3 ?k4 (intKind_is _ _ _ _) _ ?k5 ?_; (case k1 => k_asm); (case k2 => k_mem); (case k3 => with_reducible assumption); (case k4 => with_reducible assumption); (case k5 => with_reducible assumption))))
local macro_rules | `(tactic| walk_at "setItem ref int") => `(tactic| (k_here; k_dflt (refine' kda_set (knd := PySem.intKind _ _) ?F ?N ?U ?d (intKind_is _ _ _ _) ?z ?_; (case F => k_asm); (case N => k_asm); (case U => k_updF); (case d => with_reducible assumption); (case z => size_fits)); intro h' o' F' N' hd'; (try dsimp only at N')))
namespace Mine
theorem small_int {i : Int} {n : Nat} (h0 : 0 ≤ i) (h1 : i < n) : i.toNat < n := by omega
end Mine
local macro_rules | `(tactic| walk_at "m:w5") => `(tactic| (k_here; (with_reducible show wpAny _ _ (subscriptTail _ _ (Value.ref _) (Value.int _ _)) _ _ _); k_dflt (refine' item_listL ?t ?a ?b ?c ?_; (case t => exact News.isList (by k_asm) (by k_mem)); (case a => omega); (case b => omega); (case c => with_reducible assumption); k_whole)))
local macro_rules | `(tactic| walk_at "subscriptTail Name BinOp ref int") => `(tactic| walk_at "m:w5")
local macro_rules | `(tactic| walk_at "m:w6") => `(tactic| (k_here; (with_reducible show wpAny _ _ (subscriptTail _ _ (Value.ref _) (Value.str _ _)) _ _ _); k_dflt (refine' kda_item (knd := PySem.strKind _ _) ?k1 ?k2 ?k3 (strKind_is _ _ _ _) ?k4 ?_; (case k1 => k_asm); (case k2 => k_mem); (case k3 => with_reducible assumption); (case k4 => with_reducible assumption))))
local macro_rules | `(tactic| walk_at "subscriptTail Name Subscript Name Constant ref str") => `(tactic| walk_at "m:w6")
local macro_rules | `(tactic| walk_at "subscriptTail") => `(tactic| walk_at "m:w6")
namespace Mine
theorem Raise_stop {M : Model} {A : Around} {E : Value → Shared → Prop} {s : Shared} {env : Env} {e c : Option PySem.Expr} {pos : Pos} {Q : Flow → Shared → Prop}
    (h : Stop (wpAny M A (exec (.Raise e c pos) env) Q E s)) : wpAny M A (exec (.Raise e c pos) env) Q E s := h.out
end Mine
local macro_rules | `(tactic| walk_at "exec Raise some none") => `(tactic| (refine Mine.Raise_stop ?_))
namespace Mine
def rowAt (rs : List RowD) (low a : Int) : Option RowD := if low ≤ a then rs[(a - low).toNat]? else none
theorem rowAt_in {rs : List RowD} {low a : Int} {r : RowD} (h : rowAt rs low a = some r) : low ≤ a ∧ a < low + rs.length := by
  unfold rowAt at h
  split at h
  · obtain ⟨h1, _⟩ := List.getElem?_eq_some_iff.mp h
    omega
  · cases h
theorem rowAt_some {rs : List RowD} {low a : Int} (h0 : low ≤ a) (h1 : a < low + rs.length) : ∃ r, rowAt rs low a = some r := by
  unfold rowAt
  rw [if_pos h0]
  exact ⟨_, List.getElem?_eq_getElem (by omega)⟩
theorem rowAt_get {rs : List RowD} {low a : Int} {r : RowD} (h : rowAt rs low a = some r) : rs[(a - low).toNat]? = some r := by
  unfold rowAt at h
  split at h
  · exact h
  · cases h
/-- what the walk over the rows comes to -/
inductive Reach (rs : List RowD) (low s : Int) : Int → Prop
  | start {r} : rowAt rs low s = some r → Reach rs low s s
  | goal {a b r q} : Reach rs low s a → rowAt rs low a = some r → b ∈ r.goals → rowAt rs low b = some q → Reach rs low s b
  | next {a r q} : Reach rs low s a → rowAt rs low a = some r → r.falls = true → rowAt rs low (a + 1) = some q → Reach rs low s (a + 1)
/-- a row that it comes to runs over the end -/
def Faulty (rs : List RowD) (low s : Int) : Prop := ∃ a r, Reach rs low s a ∧ rowAt rs low a = some r ∧ r.falls = true ∧ a + 1 = low + rs.length
theorem Reach.row {rs : List RowD} {low s a : Int} (h : Reach rs low s a) : ∃ r, rowAt rs low a = some r := by
  cases h with
  | start h => exact ⟨_, h⟩
  | goal _ _ _ h => exact ⟨_, h⟩
  | next _ _ _ h => exact ⟨_, h⟩
/-- between the turns: `K` is seen, `P` is pending -/
structure RInv (rs : List RowD) (low s : Int) (K P : List Int) : Prop where
  nd : K.Nodup
  seen : ∀ a ∈ K, Reach rs low s a
  pend : ∀ a ∈ P, ∀ r, rowAt rs low a = some r → Reach rs low s a
  st : ∀ r, rowAt rs low s = some r → s ∈ K ∨ s ∈ P
  goals : ∀ a ∈ K, ∀ r, rowAt rs low a = some r → ∀ b ∈ r.goals, ∀ q, rowAt rs low b = some q → b ∈ K ∨ b ∈ P
  falls : ∀ a ∈ K, ∀ r, rowAt rs low a = some r → r.falls = true → a + 1 ≠ low + rs.length ∧ (a + 1 ∈ K ∨ a + 1 ∈ P)
theorem RInv.init (rs : List RowD) (low s : Int) : RInv rs low s [] [s] where
  nd := .nil
  seen := fun a h => nomatch h
  pend := fun a h r hr => by rw [List.mem_singleton.mp h] at hr ⊢; exact .start hr
  st := fun _ _ => .inr (.head _)
  goals := fun a h => nomatch h
  falls := fun a h => nomatch h
/-- a pending one that is left out -/
theorem RInv.skip {rs : List RowD} {low s a : Int} {K P : List Int} (h : RInv rs low s K (P ++ [a])) (ha : rowAt rs low a = none ∨ a ∈ K) : RInv rs low s K P := by
  have cut : ∀ b, (∃ q, rowAt rs low b = some q) → b ∈ K ∨ b ∈ P ++ [a] → b ∈ K ∨ b ∈ P := by
    rintro b ⟨q, hq⟩ (x | x)
    · exact .inl x
    · rcases List.mem_append.mp x with x | x
      · exact .inr x
      · rw [List.mem_singleton.mp x] at hq ⊢
        rcases ha with ha | ha
        · rw [ha] at hq; cases hq
        · exact .inl ha
  refine ⟨h.nd, h.seen, fun b hb => h.pend b (List.mem_append_left _ hb), fun r hr => cut _ ⟨r, hr⟩ (h.st r hr), fun b hb r hr c hc q hq => cut _ ⟨q, hq⟩ (h.goals b hb r hr c hc q hq), fun b hb r hr hf => ?_⟩
  obtain ⟨h1, h2⟩ := h.falls b hb r hr hf
  refine ⟨h1, cut _ ?_ h2⟩
  have := rowAt_in hr
  exact rowAt_some (by omega) (by omega)
/-- a pending one that is taken -/
theorem RInv.take {rs : List RowD} {low s a : Int} {K P : List Int} {r : RowD} (h : RInv rs low s K (P ++ [a])) (hr : rowAt rs low a = some r) (hK : a ∉ K) (hf : r.falls = true → a + 1 ≠ low + rs.length) :
    RInv rs low s (K ++ [a]) (P ++ r.goals ++ (if r.falls = true then [a + 1] else [])) := by
  have ra : Reach rs low s a := h.pend a (by simp) r hr
  have keep : ∀ b, b ∈ K ∨ b ∈ P ++ [a] → b ∈ K ++ [a] ∨ b ∈ P ++ r.goals ++ (if r.falls = true then [a + 1] else []) := by
    rintro b (x | x)
    · exact .inl (List.mem_append_left _ x)
    · rcases List.mem_append.mp x with x | x
      · exact .inr (List.mem_append_left _ (List.mem_append_left _ x))
      · exact .inl (List.mem_append_right _ x)
  refine ⟨?_, ?_, ?_, fun q hq => keep _ (h.st q hq), ?_, ?_⟩
  · rw [List.nodup_append]
    refine ⟨h.nd, List.nodup_cons.mpr ⟨List.not_mem_nil, .nil⟩, fun x hx y hy e => ?_⟩
    rw [List.mem_singleton.mp hy] at e
    exact hK (e ▸ hx)
  · intro b hb
    rcases List.mem_append.mp hb with hb | hb
    · exact h.seen b hb
    · rw [List.mem_singleton.mp hb]; exact ra
  · intro b hb q hq
    rcases List.mem_append.mp hb with hb | hb
    · rcases List.mem_append.mp hb with hb | hb
      · exact h.pend b (List.mem_append_left _ hb) q hq
      · exact .goal ra hr hb hq
    · split at hb
      · rw [List.mem_singleton.mp hb] at hq ⊢
        exact .next ra hr (by assumption) hq
      · cases hb
  · intro b hb q hq c hc q' hq'
    rcases List.mem_append.mp hb with hb | hb
    · exact keep _ (h.goals b hb q hq c hc q' hq')
    · rw [List.mem_singleton.mp hb] at hq
      rw [hr] at hq
      cases hq
      exact .inr (List.mem_append_left _ (List.mem_append_right _ hc))
  · intro b hb q hq hq'
    rcases List.mem_append.mp hb with hb | hb
    · exact ⟨(h.falls b hb q hq hq').1, keep _ (h.falls b hb q hq hq').2⟩
    · rw [List.mem_singleton.mp hb] at hq ⊢
      rw [hr] at hq
      cases hq
      refine ⟨hf hq', .inr (List.mem_append_right _ ?_)⟩
      rw [if_pos hq']
      exact .head _
/-- it runs over the end -/
theorem RInv.fault {rs : List RowD} {low s a : Int} {K P : List Int} {r : RowD} (h : RInv rs low s K (P ++ [a])) (hr : rowAt rs low a = some r) (hf : r.falls = true) (he : a + 1 = low + rs.length) : Faulty rs low s :=
  ⟨a, r, h.pend a (by simp) r hr, hr, hf, he⟩
/-- nothing is pending -/
theorem RInv.done {rs : List RowD} {low s : Int} {K : List Int} (h : RInv rs low s K []) : (∀ a, a ∈ K ↔ Reach rs low s a) ∧ ¬ Faulty rs low s := by
  have cl : ∀ a, Reach rs low s a → a ∈ K := by
    intro a ha
    induction ha with
    | start hr => exact (h.st _ hr).elim id fun x => nomatch x
    | goal _ hr hg hq ih => exact (h.goals _ ih _ hr _ hg _ hq).elim id fun x => nomatch x
    | next _ hr hf hq ih => exact (h.falls _ ih _ hr hf).2.elim id fun x => nomatch x
  refine ⟨fun a => ⟨h.seen a, cl a⟩, ?_⟩
  rintro ⟨a, r, ha, hr, hf, he⟩
  exact (h.falls a (cl a ha) r hr hf).1 he
/-- how many rows are not seen yet -/
def unseen (n : Nat) (low : Int) (K : List Int) : Nat := ((List.range n).filter (fun i : Nat => decide (low + (i : Int) ∉ K))).length
theorem filter_lt {α : Type} {p q : α → Bool} {x : α} : ∀ {l : List α}, x ∈ l → (∀ y, q y = true → p y = true) → p x = true → q x = false → (l.filter q).length < (l.filter p).length := by
  have le : ∀ l : List α, (∀ y, q y = true → p y = true) → (l.filter q).length ≤ (l.filter p).length := by
    intro l h
    induction l with
    | nil => exact Nat.le_refl _
    | cons y r ih =>
      cases hq : q y with
      | true => rw [List.filter_cons_of_pos hq, List.filter_cons_of_pos (h y hq)]; exact Nat.succ_le_succ ih
      | false =>
        rw [List.filter_cons_of_neg (by simp [hq])]
        cases hp : p y with
        | true => rw [List.filter_cons_of_pos hp]; exact Nat.le_succ_of_le ih
        | false => rw [List.filter_cons_of_neg (by simp [hp])]; exact ih
  intro l hx h hp hq
  induction l with
  | nil => cases hx
  | cons y r ih =>
    rcases List.mem_cons.mp hx with rfl | hx
    · rw [List.filter_cons_of_neg (by simp [hq]), List.filter_cons_of_pos hp]
      exact Nat.lt_succ_of_le (le r h)
    · have := ih hx
      cases hq' : q y with
      | true => rw [List.filter_cons_of_pos hq', List.filter_cons_of_pos (h y hq')]; exact Nat.succ_lt_succ this
      | false =>
        rw [List.filter_cons_of_neg (by simp [hq'])]
        cases hp' : p y with
        | true => rw [List.filter_cons_of_pos hp']; exact Nat.lt_succ_of_lt this
        | false => rw [List.filter_cons_of_neg (by simp [hp'])]; exact this
theorem unseen_take {rs : List RowD} {low a : Int} {K : List Int} {r : RowD} (hr : rowAt rs low a = some r) (hK : a ∉ K) : unseen rs.length low (K ++ [a]) < unseen rs.length low K := by
  have hi := rowAt_in hr
  have e : low + ((a - low).toNat : Int) = a := by omega
  unfold unseen
  refine filter_lt (x := (a - low).toNat) (List.mem_range.mpr (by omega)) (fun y hy => ?_) ?_ ?_
  · have hy := of_decide_eq_true hy
    exact decide_eq_true fun q => hy (List.mem_append_left _ q)
  · rw [e]; exact decide_eq_true hK
  · rw [e]; exact decide_eq_false fun q => q (List.mem_append_right _ (.head _))
theorem goals_le (r : RowD) : r.goals.length ≤ 4 := by cases r <;> simp [RowD.goals]
/-- the keys are no more than the rows -/
theorem nodup_le {n : Nat} {low : Int} : ∀ {K : List Int}, K.Nodup → (∀ a ∈ K, low ≤ a ∧ a < low + n) → K.length ≤ n := by
  intro K
  induction n generalizing K with
  | zero =>
    intro _ h
    cases K with
    | nil => exact Nat.le_refl _
    | cons a r => have := h a (.head _); omega
  | succ n ih =>
    intro hd h
    have h1 := ih (K := K.filter fun a => decide (a ≠ low + n)) (hd.filter _) fun a ha => by
      obtain ⟨x, y⟩ := List.mem_filter.mp ha
      have := h a x
      have := of_decide_eq_true y
      omega
    have h2 : K.length ≤ (K.filter fun a => decide (a ≠ low + n)).length + 1 := by
      clear h1 ih h
      induction K with
      | nil => simp
      | cons a r ih =>
        have hd' := List.nodup_cons.mp hd
        by_cases e : a = low + n
        · rw [List.filter_cons_of_neg (by simp [e])]
          have : r.filter (fun a => decide (a ≠ low + n)) = r := by
            rw [List.filter_eq_self]
            intro b hb
            refine decide_eq_true fun q => hd'.1 ?_
            rw [e, ← q]; exact hb
          rw [this]; exact Nat.le_refl _
        · rw [List.filter_cons_of_pos (by simp [e])]
          have := ih hd'.2
          simp only [List.length_cons]
          omega
    omega
end Mine
namespace Mine
/-- the table of the kinds -/
def Shapes (w : World) (news : Led) (x : Value) (l : Led) : Prop := ∃ d o kvs, x = .ref d ∧ (d, o) ∈ l ∧ o.IsDictOf (strKind PG w) kvs ∧ (d == sysModules) = false ∧
  (∀ r : RowD, ∃ t, valueAt kvs (Str.ofString r.name) = some (S r.kinds t)) ∧ (∀ p ∈ news, p ∈ l) ∧ ∀ p ∈ news, p.1 < d
/-- a list of rows -/
def RowsAt (w : World) (news : Led) (vs : List Value) (rs : List RowD) : Prop := vs.length = rs.length ∧ ∀ (i : Nat) (r : RowD), rs[i]? = some r → ∃ v, vs[i]? = some v ∧ RowAt w news v r
/-- a call that comes back, or raises LinkFault -/
def SpecX (w : World) (k : Nat) (f : Addr) (args : List Value) (news : Led) (post : Value → Led → Prop) (exc : Prop) : Prop :=
  ∀ (mean : ExcName → Option Value) (mg mb : Str → Option Value) (dp un : Nat) (gd : Option (List Code)) (cn : Str) (cs : Scope) (a : Addr) (ccd : Value) (cl : List (Str × Addr)) (outer : List Env) (A₀ : Around) (base h₀ : Heap) (L : Addr) (m : Str → Option Value) (s : Shared) (Q E : Value → Shared → Prop),
    Below A₀ base outer h₀ → Fr h₀ L s.heap m → (HD.heap_39 w.params).In h₀ → News h₀ L s.heap news → Top HD.view_39 (looseW HD.view_39 [Str.ofString "LinkFault"]) mean mg mb h₀ → cs.kind = .function →
    dp + k < recursionLimit → un + 100 * k < cLine →
    (∀ r news' h' tk', Fr h₀ L h' m → News h₀ L h' news' → post r news' → Q r { s with heap := h', toks := tk' }) →
    (exc → ∀ h' tk' e t vs g' news', Fr h₀ L g' m → RaisedS base g' (envX cn cs L a ccd cl :: outer) e (.ref 45) t vs news' h' → g'.UpToSlots h' → (∀ p ∈ news, p ∈ news') → E (.ref e) { s with heap := h', toks := tk' }) →
    wpAny (model PG w) (ktrTop dp un gd cn cs L a ccd cl outer) (call (.ref f) args) Q E s
/-- between the turns of reachable's loop -/
def WJ (w : World) (rs : List RowD) (low st : Int) (lp ld lr dt : Addr) (tl te : Tok) (l1 : Led) (μ : Nat) (m : Str → Option Value) (nx : Led) : Prop :=
  ∃ od kvs us P kp, nx = (lp, listOf us.toArray kp) :: (ld, od) :: l1 ∧ od.IsDictOf (intKind PG w) kvs ∧ IntsAre us P ∧ RInv rs low st (kvs.map (·.1)) P ∧ 6 * unseen rs.length low (kvs.map (·.1)) + P.length = μ ∧ μ ≤ 200 ∧
    Vars m [(Str.ofString "base", .int low tl), (Str.ofString "instrs", .ref lr), (Str.ofString "table", .ref dt), (Str.ofString "seen", .ref ld), (Str.ofString "pending", .ref lp), (Str.ofString "end", .int (low + rs.length) te)]
theorem unseen_le (n : Nat) (low : Int) (K : List Int) : unseen n low K ≤ n := by
  unfold unseen
  exact Nat.le_trans (List.length_filter_le _ _) (Nat.le_of_eq List.length_range)
section
variable {h₀ : Heap} {L : Addr} {s s₃ : Shared} {J : Nat → (Str → Option Value) → Led → Prop} {Q : Flow → Shared → Prop} {n : Nat}
theorem wj_cont (h : ∃ h' tk m₂ news₂ n', s₃ = { s with heap := h', toks := tk } ∧ Fr h₀ L h' m₂ ∧ News h₀ L h' news₂ ∧ n' < n ∧ J n' m₂ news₂) : WhileStep2 h₀ L s J Q n .cont s₃ := h
theorem wj_next (h : ∃ h' tk m₂ news₂ n', s₃ = { s with heap := h', toks := tk } ∧ Fr h₀ L h' m₂ ∧ News h₀ L h' news₂ ∧ n' < n ∧ J n' m₂ news₂) : WhileStep2 h₀ L s J Q n .next s₃ := h
end
theorem row_none {rs : List RowD} {low a : Int} (h : ¬ (low ≤ a ∧ a < low + rs.length)) : rowAt rs low a = none := by
  cases e : rowAt rs low a with
  | none => rfl
  | some r => exact absurd (rowAt_in e) h
theorem snoc_last {P : List Int} (hP : P ≠ []) : P = P.dropLast ++ [P.getLastD 0] := by
  rw [List.getLastD_eq_getLast?, List.getLast?_eq_some_getLast hP]
  exact (List.dropLast_concat_getLast hP).symm
section
variable {prog : Program} {w : World} {A : Around} {E : Value → Shared → Prop} {s : Shared} {h₀ : Heap} {L d : Addr} {o : Obj} {m : Str → Option Value} {news : Led} {kvs : List (Int × Value)} {Q : Value → Shared → Prop}
theorem ints_of_at : ∀ {vs : List Value} {ns : List Int}, vs.length = ns.length → (∀ (j : Nat) (v : Value), vs[j]? = some v → ∃ n t, v = .int n t ∧ ns[j]? = some n) → IntsAre vs ns
  | [], [], _, _ => .nil
  | v :: r, [], h, _ => by cases h
  | [], n :: ns, h, _ => by cases h
  | v :: r, n :: ns, h, hv => by
    obtain ⟨n', t, rfl, hn⟩ := hv 0 v rfl
    cases hn
    exact .cons _ _ (ints_of_at (Nat.succ.inj h) fun j v hj => hv (j + 1) v hj)
/-- sorted(d) for a dict with int keys -/
theorem sorted_dict (hh : A.handled = none) (F : Fr h₀ L s.heap m) (N : News h₀ L s.heap news) (hm : (d, o) ∈ news) (hd : o.IsDictOf (intKind prog w) kvs) (lo : (d == sysModules) = false) (hn : kvs.length < 64)
    (h : ∀ D us ns c h' tk, Fr h₀ L h' m → News h₀ L h' ((D, listOf us.toArray c) :: news) → (∀ p ∈ news, p.1 < D) → IntsAre us ns → ns.Perm (kvs.map (·.1)) → ns.Pairwise (· ≤ ·) → Q (.ref D) { s with heap := h', toks := tk }) :
    wpAny (model prog w) A (call (.builtin "sorted") [.ref d]) Q E s := by
  have hD : s.heap.DictOf (intKind prog w) d kvs := kda_dict N hm hd
  obtain ⟨ep, hat⟩ := hD.dictAt
  refine kdu_sorted (kdl_dict (knd := intKind prog w) (kvs := kvs) (ep := ep) lo) hh F N hat (by rw [sizeLine_eq]; omega) fun B h' tk vs F' N' l1 hl hv => ?_
  have hI : IntsAre vs (kvs.map (·.1)) := ints_of_at (by rw [hl, List.length_map]) fun j v hj => by
    ((with_reducible refine Mine.hide fun G9 hG9 => ?_); obtain ⟨k, x, hx, hk⟩ := hv j v hj; refine hG9 ?_; clear hG9 G9)
    rw [List.getElem?_map, hx]
    cases v <;> simp [intKind, Value.isInt] at hk
    subst hk
    exact ⟨_, _, rfl, rfl⟩
  refine ksk_lsort (news' := fun o => (B, o) :: news) F' N' (fun o => .head fun p hp => Nat.ne_of_lt (l1 p hp)) (by simp) hI (by rw [List.length_map]; exact hn) fun vs' ns' c h2 F2 N2 hI2 hl2 hp2 hs2 _ => ?_
  exact h B vs' ns' c h2 tk F2 N2 l1 hI2 hp2 hs2
end
theorem reach_spec (w : World) (lr : Addr) (vs : List Value) (n : Nat) (low st : Int) (tl ts : Tok) (rs : List RowD) (news : Led) (hl : (lr, listOf vs.toArray n) ∈ news) (hr : RowsAt w news vs rs) (hlen : rs.length ≤ 30)
    (SH : ∀ news, Spec w 1 54 [] news (Shapes w news)) :
    SpecX w 4 75 [.ref lr, .int low tl, .int st ts] news (fun x l => ∃ ms, NewInts news ms x l ∧ ms.Pairwise (· < ·) ∧ (∀ a, a ∈ ms ↔ Reach rs low st a) ∧ ¬ Faulty rs low st) (Faulty rs low st) := by
  unfold SpecX
  intro mean mg mb dp un gd cn cs a ccd cl outer A₀ base h₀ L m s Q E B F X N T hk hdp hun hret hexc
  (have _ : (PySem.Challenge.rw_sa0141_01 = PySem.Challenge.rw_sa0141_01) ∧ (HD.heap_39 = HD.heap_39) := by k_fill; exact ⟨rfl, rfl⟩)
  refine wpAny_call ?_
  have e1 : vs.length = rs.length := hr.1
  k_dflt cell_enter
  rename Fr _ _ _ _ => F0
  have F1 : Fr _ _ _ (fun y => List.lookup y [(Str.ofString "entry", .int st ts), (Str.ofString "base", .int low tl), (Str.ofString "instrs", .ref lr)]) := F0
  clear F0
  k_steps
  (refine Mine.Stop.mk ?_; k_dflt (refine' Mine.Spec.use (SH news) ?k1 ?k2 ?k3 ?k4 ?k5 ?k6 ?k7 ?k8 ?k9 ?_; (case k1 => k_asm); (case k2 => k_asm); (case k3 => k_asm); (case k4 => k_asm); (case k5 => k_asm); (case k6 => first | exact rfl | assumption); (case k7 => walk_at "m:sub"); (case k8 => ktr_room); (case k9 => ktr_units)))
  (intro _ l1 h1 tk1 F2 N2 h99; (with_reducible refine Mine.hide fun G9 hG9 => ?_); rcases h99 with ⟨dt, ot, kvt, rfl, hmt, hdt, lot, hkt, hsub, hlt⟩ <;> (refine hG9 ?_; clear hG9 G9))
  have hl1 := hsub _ hl
  have hvl : vs.length ≤ 30 := by omega
  k_steps
  rename Fr _ _ _ _ => F3
  rename News _ _ _ _ => N3
  rename Obj.IsDictOf (intKind PG w) _ [] => hd0
  rename _ ∧ AllLt _ l1 => hltp
  rename_i x0 gg LL ha FG BB XX TT _ _ _ _ hb _ _ ld hc od0 hltd lod hs fs fi hd _ _ lp he hf _ _ hg
  obtain ⟨te, F4⟩ : ∃ te, Fr gg LL hg (fun y => if y = Str.ofString "end" then some (.int (low + rs.length) te) else if y = Str.ofString "pending" then some (.ref lp) else if y = Str.ofString "seen" then some (.ref ld) else if y = Str.ofString "table" then some (.ref dt) else
    List.lookup y [(Str.ofString "entry", .int st ts), (Str.ofString "base", .int low tl), (Str.ofString "instrs", .ref lr)]) := ⟨_, F3⟩
  clear F3
  refine Stop.mk (While_inv2 (WJ w rs low st lp ld lr dt tl te l1) F4 N3 ⟨_, [], [.int st ts], [st], 0, rfl, hd0, .cons _ _ .nil, .init rs low st, rfl, ?_, rfl, rfl, rfl, rfl, rfl, rfl, trivial⟩ ?_)
  · have := unseen_le rs.length low []
    simp only [List.map_nil, List.length_cons, List.length_nil]
    omega
  (intro μ m1 nx h tk F5 N5 h99; (with_reducible refine Mine.hide fun G9 hG9 => ?_); rcases h99 with ⟨od, kvs, us, P, kp, rfl, hod, hI, hR, hμ, hμ2, V⟩ <;> (refine hG9 ?_; clear hG9 G9))
  have hPl : P.length ≤ 200 := by omega
  have hul : us.length = P.length := hI.length
  have F6 := Fr.vars' V F5
  clear N3 F4 F5 hd0 hs fs fi hul
  have hltp1 := allLt_lt hltp.2
  have hldp := hltp.1
  have hne : lp ≠ ld := (Nat.ne_of_lt hldp).symm
  by_cases hP : P = []
  · subst hP
    cases hI
    have hkl : kvs.length ≤ 30 := by
      have := nodup_le (n := rs.length) (low := low) hR.nd fun a ha => by
        obtain ⟨q, hq⟩ := (hR.seen a ha).row
        exact rowAt_in hq
      rw [List.length_map] at this
      omega
    have hdm := hR.done
    k_steps
    refine sorted_dict (kvs := kvs) (by rfl) F6 N5 (.tail _ (.head _)) hod lod (by omega) ?_
    intro D us' ns' c h' tk' F7 N7 hD hI7 hp7 hs7
    clear F6 N5
    dsimp only
    k_steps
    refine hret _ _ _ _ (by k_asm) (by k_asm) ⟨ns', ?_, ?_, ?_, hdm.2⟩
    · exact ⟨D, us', c, rfl, .head _, hI7, fun p hp => .tail _ (.tail _ (.tail _ (hsub p hp))), fun p hp => hD p (.tail _ (.tail _ (hsub p hp)))⟩
    · have nd : ns'.Pairwise (· ≠ ·) := hp7.nodup_iff.mpr hR.nd
      exact (hs7.and nd).imp fun {a b} h => by omega
    · intro a
      rw [hp7.mem_iff]
      exact hdm.1 a
  · have hpos : 0 < P.length := List.length_pos_iff.mpr hP
    have hposu : 0 < us.length := by rw [hI.length]; exact hpos
    have hul : us.length ≤ 200 := by rw [hI.length]; exact hPl
    have hdl : ld ≠ lp := Nat.ne_of_lt hldp
    have hpl := lt_ne hltp1
    have hd1 := lt_ne hltd
    have hsnoc := snoc_last hP
    have hR2 := hR
    rw [hsnoc] at hR2
    have hkl : kvs.length ≤ 30 := by
      have := nodup_le (n := rs.length) (low := low) hR.nd fun a ha => by
        obtain ⟨q, hq⟩ := (hR.seen a ha).row
        exact rowAt_in hq
      rw [List.length_map] at this
      omega
    have hdl2 : P.dropLast.length + 1 = P.length := by rw [List.length_dropLast]; omega
    by_cases hin : low ≤ P.getLastD 0 ∧ P.getLastD 0 < low + rs.length
    · obtain ⟨hin0, hin1⟩ := hin
      obtain ⟨r, hr1⟩ := rowAt_some hin0 hin1
      by_cases hK : P.getLastD 0 ∈ kvs.map (·.1)
      · have hb : (valueAt kvs (P.getLastD 0)).isSome = true := by
          rw [valueAt_isSome_eq_any, List.any_eq_true]
          obtain ⟨kv, h1, h2⟩ := List.mem_map.mp hK
          exact ⟨kv, h1, by simpa using h2⟩
        k_steps
        refine wj_cont ⟨_, _, _, _, 6 * unseen rs.length low (kvs.map (·.1)) + P.dropLast.length, rfl, (by assumption), (by assumption), by omega, od, kvs, us.dropLast, P.dropLast, _, rfl, hod, by assumption, hR2.skip (.inr hK), rfl, by omega, rfl, rfl, rfl, rfl, rfl, rfl, trivial⟩
      · have hb : (valueAt kvs (P.getLastD 0)).isSome = false := by rw [valueAt_none_of_not_mem hK]; rfl
        obtain ⟨v, hv, hrow0⟩ := hr.2 _ _ (rowAt_get hr1)
        have hrow := hrow0.mono hsub
        ((with_reducible refine Mine.hide fun G9 hG9 => ?_); obtain ⟨av, t0, rest, n0, rfl, hmv⟩ := row_head hrow; refine hG9 ?_; clear hG9 G9)
        obtain ⟨tK, hkT⟩ := hkt r
        k_steps
        rename Obj.IsDictOf (intKind PG w) _ (stored _ _ _) => hod2
        rw [stored_absent (valueAt_none_of_not_mem hK)] at hod2
        rename Fr gg LL _ (fun y => if y = Str.ofString "ins" then _ else _) => F7
        rename IntsAre (List.dropLast us) _ => hI2
        rename News gg LL _ ((lp, _) :: (ld, _) :: l1) => N7
        rename_i hx7 od2 _ _ hy7
        have hrow7 : RowAt w _ (.ref av) r := hrow.mono (fun p (hp : p ∈ l1) => (.tail _ (.tail _ hp) : p ∈ (lp, listOf us.dropLast.toArray (kp + 1)) :: (ld, od2) :: l1))
        (refine Mine.Stop.mk ?_; k_dflt (refine' Mine.Spec.use (targets_spec w (.ref av) r tK _ hrow7) ?k1 ?k2 ?k3 ?k4 ?k5 ?k6 ?k7 ?k8 ?k9 ?_; (case k1 => k_asm); (case k2 => k_asm); (case k3 => k_asm); (case k4 => k_asm); (case k5 => k_asm); (case k6 => first | exact rfl | assumption); (case k7 => walk_at "m:sub"); (case k8 => ktr_room); (case k9 => ktr_units)))
        (intro _ l2 h2 tk2 F8 N8 h99; (with_reducible refine Mine.hide fun G9 hG9 => ?_); rcases h99 with ⟨lt, us2, nt, rfl, hmt2, hti, hsub2, hltt⟩ <;> (refine hG9 ?_; clear hG9 G9))
        have N9 : News gg LL h2 ((lt, listOf us2.toArray nt) :: (lp, listOf us.dropLast.toArray (kp + 1)) :: (ld, od2) :: l1) := fun p hp => by
          rcases List.mem_cons.mp hp with rfl | hp
          · exact N8 _ hmt2
          · exact N8 _ (hsub2 p hp)
        have hltp' : ∀ p ∈ (ld, od2) :: l1, p.1 ≠ lp := by
          intro p hp
          rcases List.mem_cons.mp hp with rfl | hp
          · exact hdl
          · exact hpl p hp
        have hlt1 : lp < lt := hltt _ (.head _)
        have hlt2 : ∀ p ∈ (ld, od2) :: l1, p.1 < lt := fun p hp => hltt p (.tail _ hp)
        clear N7 N8 F7
        refine list_loop (l := lt) (vs := us2) (nn := nt) (fun i m nx => ∃ ws k, nx = (lt, listOf us2.toArray nt) :: (lp, listOf ws.toArray k) :: (ld, od2) :: l1 ∧ IntsAre ws (P.dropLast ++ r.goals.take i) ∧
          Vars m [(Str.ofString "base", .int low tl), (Str.ofString "instrs", .ref lr), (Str.ofString "table", .ref dt), (Str.ofString "seen", .ref ld), (Str.ofString "pending", .ref lp), (Str.ofString "end", .int (low + rs.length) te),
            (Str.ofString "ins", .ref av), (Str.ofString "address", .int (P.getLastD 0) _)]) rfl F8 N9 (.head _) ⟨us.dropLast, _, rfl, by simpa using hI2, rfl, rfl, rfl, rfl, rfl, rfl, rfl, rfl, trivial⟩ ?_ ?_
        · (intro i v m2 nx h3 tk3 own hvi hoff _ h99 F9 N10; (with_reducible refine Mine.hide fun G9 hG9 => ?_); rcases h99 with ⟨ws, k, rfl, hws, V2⟩ <;> (refine hG9 ?_; clear hG9 G9))
          ((with_reducible refine Mine.hide fun G9 hG9 => ?_); obtain ⟨g, tg, rfl, hg⟩ := IntsAre.at hti i v hvi; refine hG9 ?_; clear hG9 G9)
          have hgi := (List.getElem?_eq_some_iff.mp hg).1
          have hg4 := goals_le r
          have hwl : ws.length ≤ 300 := by
            rw [hws.length, List.length_append, List.length_take]
            omega
          have F10 := Fr.vars V2 F9
          have N11 : News _ _ h3 ((lt, listOf us2.toArray nt) :: (lp, listOf ws.toArray k) :: ((ld, od2) :: l1 ++ own)) := N10
          have e2 : ∀ p ∈ (ld, od2) :: l1 ++ own, p.1 ≠ lp := fun p hp => (List.mem_append.mp hp).elim (hltp' p) fun hp => hoff p hp lp (by simp)
          have e3 : lt ≠ lp := (Nat.ne_of_lt hlt1).symm
          clear F9 N10 F8 N9
          k_steps
          rename Fr _ _ _ _ => F12
          rename News _ _ _ _ => N12
          rw [List.push_toArray] at N12
          refine InvEndG.intro (nx := (lt, listOf us2.toArray nt) :: (lp, listOf (ws ++ [Value.int g tg]).toArray (k + 1)) :: (ld, od2) :: l1) F12 N12 ?_ hoff (sub_cons (sub_cons sub_left)) (sub_tail (sub_tail sub_right))
          refine ⟨.head _, ws ++ [_], _, rfl, ?_, rfl, rfl, rfl, rfl, rfl, rfl, rfl, rfl, trivial⟩
          rw [List.take_add_one, hg, ← List.append_assoc]
          exact ints_push hws
        · (intro m2 nx h3 tk3 h99 F9 N10; (with_reducible refine Mine.hide fun G9 hG9 => ?_); rcases h99 with ⟨ws, k, rfl, hws, V2⟩ <;> (refine hG9 ?_; clear hG9 G9))
          have hws2 : IntsAre ws (P.dropLast ++ r.goals) := by rw [hti.length, List.take_length] at hws; exact hws
          have hg4 := goals_le r
          have hwl : ws.length ≤ 300 := by
            rw [hws2.length, List.length_append]
            omega
          have F10 := Fr.vars' V2 F9
          have hltp3 : ∀ p ∈ (lt, listOf us2.toArray nt) :: (ld, od2) :: l1, p.1 ≠ lp := by
            intro p hp
            rcases List.mem_cons.mp hp with rfl | hp
            · exact (Nat.ne_of_lt hlt1).symm
            · exact hltp' p hp
          have e3 : lt ≠ lp := (Nat.ne_of_lt hlt1).symm
          have hrow9 : RowAt w _ (.ref av) r := hrow.mono (fun p (hp : p ∈ l1) => (.tail _ (.tail _ (.tail _ hp)) : p ∈ (lt, listOf us2.toArray nt) :: (lp, listOf ws.toArray k) :: (ld, od2) :: l1))
          clear F8 N9 F9 hws
          k_steps
          (refine Mine.Stop.mk ?_; k_dflt (refine' Mine.Spec.use (goes_spec w (.ref av) r _ hrow9) ?k1 ?k2 ?k3 ?k4 ?k5 ?k6 ?k7 ?k8 ?k9 ?_; (case k1 => k_asm); (case k2 => k_asm); (case k3 => k_asm); (case k4 => k_asm); (case k5 => k_asm); (case k6 => first | exact rfl | assumption); (case k7 => walk_at "m:sub"); (case k8 => ktr_room); (case k9 => ktr_units)))
          rintro _ l3 h4 tk4 F11 N11 ⟨rfl, hsub3⟩
          have N12 : News gg LL h4 ((lp, listOf ws.toArray k) :: (ld, od2) :: l1) := fun p hp => N11 p (hsub3 p (.tail _ hp))
          clear N11 N10 F10
          have hut := unseen_take hr1 hK
          have hmap : (kvs ++ [(P.getLastD 0, Value.bool true)]).map (·.1) = kvs.map (·.1) ++ [P.getLastD 0] := by simp
          have hwe := hws2.length
          rw [List.length_append] at hwe
          cases hfl : r.falls
          · k_steps
            have hT := hR2.take hr1 hK (fun h => by rw [hfl] at h; cases h)
            rw [hfl, if_neg (by decide), List.append_nil] at hT
            rw [← hmap] at hT
            refine wj_next ⟨_, _, _, _, 6 * unseen rs.length low ((kvs ++ [(P.getLastD 0, Value.bool true)]).map (·.1)) + (P.dropLast ++ r.goals).length, rfl, (by assumption), N12, ?_, od2, _, ws, P.dropLast ++ r.goals, _, rfl, hod2, hws2, hT, rfl, ?_, rfl, rfl, rfl, rfl, rfl, rfl, trivial⟩
            · rw [hmap, List.length_append]; omega
            · rw [hmap, List.length_append]; omega
          · k_steps
            · refine Stop.mk ?_
              rename _ = _ => hend
              refine raise_fault (by k_asm) (by k_asm) (by k_asm) N12 (by k_asm) rfl (by ktr_room) (by ktr_units) rfl ?_
              intro h5 tk5 e t d o tkx het hnew F13 N13
              show wpAny _ _ (leaving _ _) _ _ _
              refine leave_fault BB F13 N13 het hnew (fun h6 R6 U6 => ?_)
              refine hexc (hR2.fault hr1 hfl hend) h6 tk5 e t _ gg _ FG R6 U6 ?_
              exact fun p hp => .tail _ (.tail _ (hsub p hp))
            · rename _ ≠ _ => hend
              rename News _ _ _ ((lp, listOf (Array.push _ _) _) :: _) => N14
              rw [List.push_toArray] at N14
              have hT := hR2.take hr1 hK (fun _ => hend)
              rw [if_pos hfl, ← hmap] at hT
              refine wj_next ⟨_, _, _, _, 6 * unseen rs.length low ((kvs ++ [(P.getLastD 0, Value.bool true)]).map (·.1)) + (P.dropLast ++ r.goals ++ [P.getLastD 0 + 1]).length, rfl, (by assumption), N14, ?_, od2, _, _, P.dropLast ++ r.goals ++ [P.getLastD 0 + 1], _, rfl, hod2, ints_push hws2, hT, rfl, ?_, rfl, rfl, rfl, rfl, rfl, rfl, trivial⟩
              · rw [hmap, List.length_append, List.length_append, List.length_singleton]; omega
              · rw [hmap, List.length_append, List.length_append, List.length_singleton]; omega
    · k_steps
      all_goals first
        | (exfalso; omega)
        | exact wj_cont ⟨_, _, _, _, 6 * unseen rs.length low (kvs.map (·.1)) + P.dropLast.length, rfl, (by assumption), (by assumption), by omega, od, kvs, us.dropLast, P.dropLast, _, rfl, hod, by assumption, hR2.skip (.inl (row_none hin)), rfl, by omega, rfl, rfl, rfl, rfl, rfl, rfl, trivial⟩
end Mine
section
open PySem.Calls
namespace Mine
section
variable {prog : Program} {w : World} {A₀ A : Around} {s : Shared} {base h₀ : Heap} {L a : Addr} {m : Str → Option Value} {env : Env} {news : Led} {K : Frag} {p : Program} {loose : List Str} {mean : ExcName → Option Value} {mg mb : Str → Option Value}
    {R : Result → Shared → Prop} {name qual : Str} {params : Arguments} {body : List Stmt} {scope : Scope} {dV kV doc pm cdv ct oc : Value} {an od : Option Addr} {osl : Array (Option Value)} {f : Addr} {args : Args} {binds : List (Str × Value)}
theorem code_try (B : Below A₀ base [] h₀) (F : Fr h₀ L s.heap m) (X₀ : K.In h₀) (N : News h₀ L s.heap news) (T : Top p loose mean mg mb h₀) (hA : A.frames = some [env]) (hf : env.frame = some L) (hke : env.scope.kind = .function)
    (ho : K.lookup f = some ⟨oc, od, .func (fnOf name qual params body scope dV kV doc pm an cdv ct), osl⟩) (hcd : codeIn K cdv qual = true) (hroom : A.depth < recursionLimit)
    (hbind : BindsTo s (fnOf name qual params body scope dV kV doc pm an cdv ct) args binds) (hloc : ∀ y ∈ binds, scope.names.lookup y.1 = some .local)
    (h : ∀ g L' h₁, Fr h₀ L g m → Fr g L' h₁ (fun y => binds.reverse.lookup y) → News g L' h₁ news → Below A base [env] g → K.In g → Top p loose mean mg mb g → KtsDicts ([env].filterMap (·.frame)) g →
      wpAny (model prog w) (A.deeper (envOf qual scope L' f cdv)) (execs body (envOf qual scope L' f cdv))
        (fun fl s' => LeaveS0 ([env].filterMap (·.frame)) h₀ L m g R (match fl with | .ret v => v | _ => .none) s')
        (fun e s' => wpAny (model prog w) (A.deeper (envOf qual scope L' f cdv)) (leaving (envOf qual scope L' f cdv) e) (fun _ s'' => R (.error e) s'') (fun e' s'' => R (.error e') s'') s')
        { s with heap := h₁, toks := s.toks + binds.length })
    (hco : scope.isCoroutine = false) (hgen : scope.isGenerator = false) (hk : scope.kind = .function)
    (hcell : ∀ x ∈ scope.names, x.2 ≠ .cell) : codeAny (model prog w) A (.call (.ref f) args) R s := by
  have X := X₀.keeps F.keep
  have hmem : ∀ b, b ∈ [env].filterMap (·.frame) ↔ b = L := by
    intro b
    simp only [List.filterMap_cons, hf, List.filterMap_nil, List.mem_singleton]
  refine codeAny_call_def (fd := fnOf name qual params body scope dV kV doc pm an cdv ct) (body := body) (binds := binds) hroom (X _ _ ho) rfl (T.nolimit.keeps F.keep) (codeRec_of X hcd) rfl hbind hcell hloc (fun h₁ hns hk₁ => ?_) hco hgen hk
  ((with_reducible refine Mine.hide fun G9 hG9 => ?_); obtain ⟨FG, B₂, st, _⟩ := groundX (R := R) B F N hA hf hke; refine hG9 ?_; clear hG9 G9)
  ((with_reducible refine Mine.hide fun G9 hG9 => ?_); obtain ⟨oL, es, ep, hL, hLd, hLk, hLf⟩ := F.ns; refine hG9 ?_; clear hG9 G9)
  have nL : L ∉ news.map (·.1) := fun q => by
    obtain ⟨p, hp, e⟩ := List.mem_map.mp q
    exact (N p hp).2.1 e
  have hLg := hideAll_get (news.map (·.1)) hL nL
  have hN : ∀ (sl : Array (Option Value)) h', h'.get? L = some { oL with slots := sl } → Heap.Ns h' L m := fun sl h' e => ⟨_, es, ep, e, hLd, hLk, hLf⟩
  refine wpAny_mono (h _ s.heap.objs.size h₁ FG ⟨hns, fun b o e => hk₁ b o (of_hideAll _ e), Nat.le_of_eq (hideAll_size _ _)⟩
    (fun p hp => ⟨hk₁ _ _ (N p hp).1, Nat.ne_of_lt (Heap.lt_size (N p hp).1), hideAll_none _ (List.mem_map_of_mem hp)⟩) B₂ (X₀.keeps st) (T.keeps st) (fun b hb => by
      rw [(hmem b).mp hb]
      exact ⟨oL, es, ep, hLg, hLd⟩)) (fun fl s' hl => ?_) fun _ _ y => y
  ((with_reducible refine Mine.hide fun G9 hG9 => ?_); obtain ⟨g', L', m', news', T', F', N', k⟩ := hl; refine hG9 ?_; clear hG9 G9)
  have nL₀ : h₀.get? L = none := kts_self F
  obtain ⟨sl, hs⟩ := T'.up hLg
  refine k ⟨hN sl _ (F'.keep _ _ hs), fun b o e => F'.keep b o (T'.other b o (st b o e) (fun q => by
    rw [(hmem b).mp q, nL₀] at e
    cases e)), F.above⟩ fun p hp => ⟨(N' p hp).1, fun q => ?_, ?_⟩
  · have := (N' p hp).2.2; rw [q, hs] at this; cases this
  · cases q : h₀.get? p.1 with
    | none => rfl
    | some o =>
      obtain ⟨sl', hs'⟩ := T'.up (st _ _ q)
      have := (N' p hp).2.2
      rw [hs'] at this
      cases this
end
/-- a call from the law's own frame -/
def SpecT (w : World) (k : Nat) (f : Addr) (args : List Value) (news : Led) (post : Value → Led → Prop) : Prop :=
  ∀ (mean : ExcName → Option Value) (mg mb : Str → Option Value) (dp un : Nat) (gd : Option (List Code)) (cn : Str) (cs : Scope) (a : Addr) (ccd : Value) (cl : List (Str × Addr)) (A₀ : Around) (base h₀ : Heap) (L : Addr) (m : Str → Option Value) (s : Shared) (Q E : Value → Shared → Prop),
    Below A₀ base [] h₀ → Fr h₀ L s.heap m → (HD.heap_39 w.params).In h₀ → (HD.heap_39 w.params).In base → News h₀ L s.heap news → Top HD.view_39 (looseW HD.view_39 [Str.ofString "LinkFault"]) mean mg mb h₀ → Top HD.view_39 (looseW HD.view_39 [Str.ofString "LinkFault"]) mean mg mb base → cs.kind = .function →
    dp + k < recursionLimit → un + 100 * k < cLine →
    (∀ r news' h' tk', Fr h₀ L h' m → News h₀ L h' news' → post r news' → Q r { s with heap := h', toks := tk' }) →
    wpAny (model PG w) (ktrTop dp un gd cn cs L a ccd cl []) (call (.ref f) args) Q E s
/-- what the law takes the walk's answer for -/
def Reached (news : Led) (rs : List RowD) (low st : Int) (x : Value) (l : Led) : Prop :=
  (x = .none ∧ Faulty rs low st ∧ ∀ p ∈ news, p ∈ l) ∨ ∃ ms, NewInts news ms x l ∧ ms.Pairwise (· < ·) ∧ (∀ a, a ∈ ms ↔ Reach rs low st a) ∧ ¬ Faulty rs low st
theorem reached_spec (w : World) (lr : Addr) (vs : List Value) (n : Nat) (low st : Int) (tl ts : Tok) (rs : List RowD) (news : Led) (hl : (lr, listOf vs.toArray n) ∈ news) (hr : RowsAt w news vs rs) (hlen : rs.length ≤ 30)
    (SH : ∀ news, Spec w 1 54 [] news (Shapes w news)) :
    SpecT w 6 122 [.ref lr, .int low tl, .int st ts] news (Reached news rs low st) := by
  unfold SpecT
  intro mean mg mb dp un gd cn cs a ccd cl A₀ base h₀ L m s Q E B F X XB N T TB hk hdp hun hret
  (have _ : (PySem.Challenge.rw_sa0141_01 = PySem.Challenge.rw_sa0141_01) ∧ (HD.heap_39 = HD.heap_39) := by k_fill; exact ⟨rfl, rfl⟩)
  refine wpAny_call ?_
  k_dflt ((refine' code_try ?k1 ?k2 ?k3 ?k4 ?k5 ?kA ?kF ?kK ?k6 ?k7 ?k8 ?k9 ?kB ?_ ?c2 ?c3 ?c4 ?c5; (case kA => exact rfl); (case kF => exact rfl); (case kK => assumption); (case k1 => k_asm); (case k2 => k_asm); (case k3 => k_asm); (case k4 => k_asm); (case k5 => k_asm); (case k6 => k_is); (case k7 => k_is); (case k8 => ktr_room); (case k9 => exact BindsTo.of_eq rfl); (case c5 => decide); (case kB => exact locs rfl); (case c2 => exact rfl); (case c3 => exact rfl); (case c4 => exact rfl); k_whole))
  intro g L' h1 FG F1 N1 B1 X1 T1 D1
  (try dsimp only)
  have F2 : Fr g L' h1 (fun y => List.lookup y [(Str.ofString "start", .int st ts), (Str.ofString "low", .int low tl), (Str.ofString "rows", .ref lr)]) := F1
  clear F1
  refine wpAny_execs_cons ?_
  refine wpAny_Try_except ?_
  k_steps
  refine Stop.mk ?_
  refine reach_spec w lr vs n low st tl ts rs news hl hr hlen SH _ _ _ _ _ _ _ _ _ _ _ _ _ _ _ _ _ _ _ _ B1 F2 X1 N1 T1 rfl (by ktr_room) (by ktr_units) ?_ ?_
  · rintro r news' h' tk' F3 N3 ⟨ms, hms⟩
    refine leaveS0_ F3 N3 KtsTurn.refl fun kF kN => ?_
    exact hret r news' h' tk' kF kN (.inr ⟨ms, hms⟩)
  · intro hx h' tk' e t us G l3 FG3 R3 U3 hsub
    refine caught_SO0 (g₀ := g) (KF := HD.heap_39 w.params) R3 FG3 B1 U3 XB TB D1 KtsTurn.refl (by rfl) (by rfl) ?_
    intro h4 g4 l4 T4 F4 N4 _ N5 K4 X4 P4 D4
    k_steps
    exact hret _ _ _ _ (by assumption) (by assumption) (.inl ⟨rfl, hx, hsub⟩)
end Mine
end
section
open PySem.Spec
namespace Mine
section
variable {prog : Program} {w : World} {K : Type} [DecidableEq K] {knd : KeyKind prog w K} {A : Around} {E : Value → Shared → Prop} {s : Shared}
theorem dictPut_new {d : Addr} {kvs : List (K × Value)} {k : K} {key v : Value} {Q : Unit → Shared → Prop} (hkey : knd.is k key = true) (hm : s.heap.DictOf knd d kvs) (hnot : k ∉ kvs.map (·.1))
    (hQ : ∀ h', h'.DictOf knd d (kvs ++ [(k, v)]) → Heap.SameBut d s.heap h' → Q () { s with heap := h' }) (hsz : kvs.length ≤ sizeLine) :
    wpAny (model prog w) A (dictPut d (knd.hash k) key v) Q E s := by
  ((with_reducible refine Mine.hide fun G9 hG9 => ?_); obtain ⟨o, es, ep, ho, hc, hd, hk, hp, hn⟩ := hm; refine hG9 ?_; clear hG9 G9)
  have hes : es.size ≤ sizeLine := by
    have e1 := hp.length
    have e2 : es.toList.length = es.size := by simp
    omega
  unfold dictPut
  refine wpAny_bind (wpAny_dictFind_of hkey ho hd hk ?_)
  have hidx : (es.findIdx? fun e => knd.is k e.key) = kvs.findIdx? fun kv => decide (kv.1 = k) := by
    rw [← hp.findIdx k]; obtain ⟨l⟩ := es; simp
  have hnone : (kvs.findIdx? fun kv => decide (kv.1 = k)) = none := by
    rw [List.findIdx?_eq_none_iff]
    intro kv hkv
    exact decide_eq_false fun e => hnot (List.mem_map.mpr ⟨kv, hkv, e⟩)
  rw [hidx, hnone]
  refine wpAny_updateDictKeys (hz := hes) ho hd (hQ _ ⟨_, _, ep + 1, Heap.get?_update_self _ ho (Obj.isFreed_of_dict (Obj.data_mapDictKeys hd _)),
      hc.mapDictKeys _, Obj.data_mapDictKeys hd _, hk.push hkey _, ?_, ?_⟩ (Heap.SameBut.update ..))
  · have := hp.append hkey (knd.hash k) v
    obtain ⟨l⟩ := es
    simpa using this
  · rw [List.map_append, List.nodup_append]
    refine ⟨hn, by simp, ?_⟩
    intro a ha b hb
    simp only [List.map_cons, List.map_nil, List.mem_singleton] at hb
    subst hb
    exact fun e => hnot (e ▸ ha)
theorem merge_new {d o : Addr} {kvs more : List (K × Value)} {Q : Unit → Shared → Prop} (hdo : d ≠ o) (hoS : (o == sysModules) = false) (hd : s.heap.DictOf knd d kvs) (hkv : kvs ≠ []) (ho : s.heap.DictOf knd o more)
    (hnd : ((kvs ++ more).map (·.1)).Nodup) (hsz : kvs.length + more.length ≤ sizeLine) (hQ : ∀ h', h'.DictOf knd d (kvs ++ more) → Heap.SameBut d s.heap h' → Q () { s with heap := h' }) :
    wpAny (model prog w) A (mergeMapping d (.ref o) false) Q E s := by
  obtain ⟨od, esd, epd, hod, hcd, hdd, hkd, hpd, hnd1⟩ := id hd
  obtain ⟨oo, eso, epo, hoo, hco, hdo', hko, hpo, hno⟩ := id ho
  unfold mergeMapping
  refine wpAny_bind (wpAny_isInstance ho.typeIs isSubtype_dict_dict ?_)
  dsimp only
  rw [if_pos rfl]
  refine wpAny_bind (wpAny_specialOf ho.typeIs F.slot_dict_iter.lookup (wpAny_bind (wpAny_pure ?_)))
  simp only [beq_self_eq_true]
  rw [if_neg (by rw [hoS]; exact Bool.false_ne_true)]
  refine wpAny_bind (wpAny_dictEntries hod hdd ?_)
  have hlen : more.length = eso.size := by rw [← hpo.length]; simp
  have hne : esd.isEmpty = false := by
    cases e : esd.isEmpty with
    | false => rfl
    | true =>
      have h0 : esd = #[] := Array.isEmpty_iff.mp e
      have := hpd.length
      rw [h0] at this
      exact absurd (List.length_eq_zero_iff.mp (by simpa using this.symm)) hkv
  rw [hne, if_neg (by decide)]
  refine wpAny_bind (wpAny_dictEntries hoo hdo' ?_)
  refine wpAny_bind (wpAny_dictEpoch hoo hdo' ?_)
  refine wpAny_bind ?_
  have hr0 : List.range eso.size = List.range' 0 (eso.size - 0) := by rw [List.range_eq_range', Nat.sub_zero]
  rw [hr0]
  refine wpAny_forIn_list _
      (fun rest _ s' => ∃ h' i, s' = { s with heap := h' } ∧ rest = List.range' i (eso.size - i) ∧ i ≤ eso.size ∧ h'.DictOf knd d (kvs ++ more.take i) ∧ h'.get? o = some oo ∧ Heap.SameBut d s.heap h')
      _ ?_ ?_ _ _ ⟨s.heap, 0, rfl, by simp, Nat.zero_le _, by simpa using hd, hoo, Heap.SameBut.refl _ _⟩
  · (intro x rest b s' h99; (with_reducible refine Mine.hide fun G9 hG9 => ?_); rcases h99 with ⟨h', i, rfl, hr, hi, hd', hoo', hs'⟩ <;> (refine hG9 ?_; clear hG9 G9))
    have hlt : i < eso.size := by
      rcases Nat.lt_or_ge i eso.size with h | h
      · exact h
      · rw [Nat.sub_eq_zero_of_le h] at hr; simp at hr
    obtain ⟨rfl, hrest⟩ : x = i ∧ rest = List.range' (i + 1) (eso.size - (i + 1)) := by
      have e : eso.size - i = (eso.size - (i + 1)) + 1 := by omega
      rw [e, List.range'_succ] at hr
      injection hr with h1 h2
      exact ⟨h1, h2⟩
    refine wpAny_bind (wpAny_dictEntries hoo' hdo' ?_)
    rw [Array.getElem?_eq_getElem hlt]
    obtain ⟨kv, hkv⟩ : ∃ kv, more[x]? = some kv := ⟨more[x]'(by rw [hlen]; exact hlt), List.getElem?_eq_getElem _⟩
    obtain ⟨k, v⟩ := kv
    obtain ⟨hkey, hval⟩ := hpo.get? (e := eso[x]) (by simp [hlt]) hkv
    obtain ⟨k', hkey', hhash⟩ := hko eso[x] (Array.getElem_mem hlt)
    obtain rfl : k' = k := knd.inj _ _ _ hkey' hkey
    dsimp only
    rw [if_neg (by decide), hhash, hval]
    have htl : (more.take x).length ≤ more.length := by rw [List.length_take]; omega
    have hfresh : k' ∉ (kvs ++ more.take x).map (·.1) := by
      have e1 : kvs ++ more = (kvs ++ more.take x) ++ (k', v) :: more.drop (x + 1) := by
        rw [List.append_assoc]
        congr 1
        obtain ⟨h1, h2⟩ := List.getElem?_eq_some_iff.mp hkv
        rw [← h2, List.getElem_cons_drop, List.take_append_drop]
      rw [e1, List.map_append, List.nodup_append] at hnd
      intro hm
      exact hnd.2.2 k' hm k' (by simp) rfl
    refine wpAny_bind (wpAny_holding (dictPut_new hkey hd' hfresh (fun h'' hd'' hs'' => ?_) (by rw [List.length_append]; omega)))
    have hoo'' : h''.get? o = some oo := (hs''.2 o (Ne.symm hdo)).trans hoo'
    refine wpAny_bind (wpAny_dictEpoch hoo'' hdo' ?_)
    rw [if_neg (by simp)]
    refine wpAny_pure ⟨h'', x + 1, rfl, hrest, hlt, ?_, hoo'', hs'.trans hs''⟩
    rw [List.take_add_one, hkv, ← List.append_assoc]
    exact hd''
  · (intro b s' h99; (with_reducible refine Mine.hide fun G9 hG9 => ?_); rcases h99 with ⟨h', i, rfl, hr, hi, hd', hoo', hs'⟩ <;> (refine hG9 ?_; clear hG9 G9))
    have hin : i = eso.size := by
      rcases Nat.lt_or_ge i eso.size with h | h
      · have e : eso.size - i = (eso.size - (i + 1)) + 1 := by omega
        rw [e, List.range'_succ] at hr; exact nomatch hr
      · exact Nat.le_antisymm hi h
    refine wpAny_pure (hQ h' ?_ hs')
    rw [hin, ← hlen, List.take_length] at hd'
    exact hd'
end
/-- trees that give these words -/
inductive Consts : List (Sem Value × Sem Value) → List (Str × Str) → Prop
  | nil : Consts [] []
  | cons {k v : Str} {p : Sem Value × Sem Value} {r l} : (∀ {M : Model} {A : Around} {E : Value → Shared → Prop} {s : Shared} {Q : Value → Shared → Prop}, Q (.str k s.toks) { s with toks := s.toks + 1 } → wpAny M A p.1 Q E s) →
      (∀ {M : Model} {A : Around} {E : Value → Shared → Prop} {s : Shared} {Q : Value → Shared → Prop}, Q (.str v s.toks) { s with toks := s.toks + 1 } → wpAny M A p.2 Q E s) → Consts r l → Consts (p :: r) ((k, v) :: l)
/-- the dict's pairs are these words -/
inductive Lit : List (Str × Value) → List (Str × Str) → Prop
  | nil : Lit [] []
  | cons {k v : Str} {t : Tok} {r l} : Lit r l → Lit ((k, .str v t) :: r) ((k, v) :: l)
theorem Lit.append {a b : List (Str × Value)} {x y : List (Str × Str)} (h : Lit a x) (h' : Lit b y) : Lit (a ++ b) (x ++ y) := by
  induction h with
  | nil => exact h'
  | cons _ ih => exact .cons ih
theorem Lit.keys {a : List (Str × Value)} {x : List (Str × Str)} (h : Lit a x) : a.map (·.1) = x.map (·.1) := by
  induction h with
  | nil => rfl
  | cons _ ih => rw [List.map_cons, List.map_cons, ih]
theorem Lit.length {a : List (Str × Value)} {x : List (Str × Str)} (h : Lit a x) : a.length = x.length := by
  have := congrArg List.length h.keys
  simpa using this
theorem Lit.at {a : List (Str × Value)} {x : List (Str × Str)} (h : Lit a x) {k v : Str} (hk : x.lookup k = some v) : ∃ t, valueAt a k = some (.str v t) := by
  induction h with
  | nil => cases hk
  | @cons k' v' t r l _ ih =>
    rw [List.lookup_cons] at hk
    by_cases e : k = k'
    · subst e
      simp only [beq_self_eq_true] at hk
      cases hk
      exact ⟨t, by simp [valueAt]⟩
    · have e1 : (k == k') = false := by simpa using e
      rw [e1] at hk
      obtain ⟨t', ht⟩ := ih hk
      refine ⟨t', ?_⟩
      have e2 : ¬ k' = k := fun q => e q.symm
      simpa [valueAt, List.find?_cons, e2] using ht
section
variable {prog : Program} {w : World} {A : Around} {E : Value → Shared → Prop}
theorem set_all {d : Addr} : ∀ {ps : List (Sem Value × Sem Value)} {lits done : List (Str × Str)} {kvs : List (Str × Value)} {s : Shared} {Q : PUnit → Shared → Prop}, Consts ps lits → s.heap.DictOf (strKind prog w) d kvs → Lit kvs done → ((done ++ lits).map (·.1)).Nodup → (done ++ lits).length ≤ 1000 →
    (∀ h' tk' kvs', h'.DictOf (strKind prog w) d kvs' → Lit kvs' (done ++ lits) → Heap.SameBut d s.heap h' → Q PUnit.unit { s with heap := h', toks := tk' }) →
    wpAny (model prog w) A (forIn ps PUnit.unit fun (x : Sem Value × Sem Value) (_ : PUnit) => (do let kv ← x.1; let vv ← holding [kv] x.2; holding [kv, vv] (dictSet d kv vv); pure (ForInStep.yield PUnit.unit) : Sem (ForInStep PUnit))) Q E s
  | _, _, done, kvs, s, Q, .nil, hd, hl, _, _, hQ => by
    rw [List.forIn_nil]
    refine wpAny_pure ?_
    exact hQ s.heap s.toks kvs hd (by rw [List.append_nil]; exact hl) (Heap.SameBut.refl _ _)
  | _, _, done, kvs, s, Q, .cons (k := k) (v := v) (r := r) (l := l) h1 h2 hc, hd, hl, hn, hz, hQ => by
    rw [List.forIn_cons]
    have hfresh : k ∉ kvs.map (·.1) := by
      rw [hl.keys]
      intro hm
      rw [List.map_append, List.nodup_append] at hn
      exact hn.2.2 k hm k (by simp) rfl
    have hkl : kvs.length ≤ sizeLine := by
      rw [hl.length, sizeLine_eq]
      rw [List.length_append] at hz
      omega
    refine wpAny_bind (wpAny_bind (h1 (wpAny_bind (wpAny_holding (h2 (wpAny_bind (wpAny_holding (wpAny_dictSet_pairs (knd := strKind prog w) (hsz := hkl) (strKind_is _ _ _ _) hd fun h' hd' hs' => ?_))))))))
    refine wpAny_pure ?_
    rw [stored_absent (valueAt_none_of_not_mem hfresh)] at hd'
    have e : (done ++ [(k, v)]) ++ l = done ++ (k, v) :: l := by simp
    refine set_all (done := done ++ [(k, v)]) hc hd' (hl.append (.cons .nil)) (by rw [e]; exact hn) (by rw [e]; exact hz) fun h'' tk'' kvs'' hd'' hl'' hs'' => ?_
    exact hQ h'' tk'' kvs'' hd'' (by rw [e] at hl''; exact hl'') (hs'.trans hs'')
theorem eval_consts : ∀ {ps : List (Sem Value × Sem Value)} {lits : List (Str × Str)} {s : Shared} {Q : List (Value × Value) → Shared → Prop}, Consts ps lits →
    (∀ tk' vs kvs, Carries (strKind prog w) vs kvs → Lit kvs lits → Q vs { s with toks := tk' }) → wpAny (model prog w) A (evalPairs ps) Q E s
  | _, _, s, Q, .nil, hQ => evalPairs_nil (hQ s.toks [] [] trivial .nil)
  | _, _, s, Q, .cons (k := k) (v := v) h1 h2 hc, hQ =>
    evalPairs_cons (h1 (h2 (eval_consts hc fun tk' vs kvs c l => hQ tk' _ ((k, .str v _) :: kvs) ⟨strKind_is _ _ _ _, rfl, c⟩ (.cons l))))
theorem subDict_consts {ps : List (Sem Value × Sem Value)} {lits : List (Str × Str)} {s : Shared} {Q : Addr → Shared → Prop} (hc : Consts ps lits) (hn : (lits.map (·.1)).Nodup) (hz : lits.length ≤ 1000)
    (hQ : ∀ h' tk' kvs, h'.DictOf (strKind prog w) s.heap.objs.size kvs → Lit kvs lits → Heap.SameBut s.heap.objs.size (s.heap.push { cls := .type "dict", data := .dict #[] }) h' → Q s.heap.objs.size { s with heap := h', toks := tk' }) :
    wpAny (model prog w) A (subDict ps) Q E s := by
  by_cases hl : ps.length ≤ 15
  · refine wpAny_subDict (knd := strKind prog w) hl (eval_consts hc fun tk' vs kvs c l => ⟨kvs, c, Heap.DictOf.new _, fun h' hm hs => hQ h' _ kvs ?_ l hs⟩)
    rw [merged_nil_of_nodup kvs (by rw [l.keys]; exact hn)] at hm
    exact hm
  · unfold subDict
    refine wpAny_bind (wpAny_alloc ?_)
    refine wpAny_bind (wpAny_holding ?_)
    rw [if_neg hl]
    refine wpAny_bind (wpAny_rule ?_)
    refine wpAny_bind (set_all (done := []) hc (Heap.DictOf.new _) .nil (by simpa using hn) (by simpa using hz) fun h' tk' kvs' hd' hl' hs' => ?_)
    exact wpAny_pure (wpAny_pure (hQ h' tk' kvs' hd' (by simpa using hl') hs'))
end
/-- one run of a display is put into the dict -/
def flushD (run : List (Sem Value × Sem Value)) (main : Option Addr) : Sem (Option Addr) := do
  if run.isEmpty then return main
  match main with
  | none => return some (← subDict run)
  | some d =>
    let sub ← holding [.ref d] (subDict run)
    (holding [.ref d, .ref sub] (mergeMapping d (.ref sub) false)).onRaise fun x => do let _ ← holding [.ref d, x] (runValue (.builtin "proto.let_go" {}))
    return some d
abbrev DSt := Option Addr × List (Sem Value × Sem Value)
theorem forIn_chunk (f : (Option (Sem Value) × Sem Value) → DSt → Sem (ForInStep DSt))
    (hf : ∀ (p : Sem Value × Sem Value) (run : List (Sem Value × Sem Value)) (main : Option Addr), run.length + 1 < 17 → f (some p.1, p.2) (main, run) = pure (.yield (main, run ++ [p])))
    (hg : ∀ (p : Sem Value × Sem Value) (run : List (Sem Value × Sem Value)) (main : Option Addr), run.length + 1 = 17 → f (some p.1, p.2) (main, run) = (flushD (run ++ [p]) main >>= fun m => pure (.yield (m, [])))) (rest : List (Option (Sem Value) × Sem Value)) (main : Option Addr) :
    ∀ (items run : List (Sem Value × Sem Value)), run.length + items.length = 17 → items ≠ [] → forIn ((items.map fun p => (some p.1, p.2)) ++ rest) ((main, run) : DSt) f = (flushD (run ++ items) main >>= fun m => forIn rest ((m, []) : DSt) f)
  | [], run, _, h => absurd rfl h
  | [p], run, h, _ => by
    rw [List.map_cons, List.map_nil, List.cons_append, List.nil_append, List.forIn_cons, hg p run main (by simpa using h), bind_assoc]
    simp only [pure_bind]
  | p :: q :: r, run, h, _ => by
    rw [List.map_cons, List.cons_append, List.forIn_cons, hf p run main (by simp at h; omega), pure_bind]
    have := forIn_chunk f hf hg rest main (q :: r) (run ++ [p]) (by simp at h ⊢; omega) (by simp)
    simpa using this
theorem forIn_rest (f : (Option (Sem Value) × Sem Value) → DSt → Sem (ForInStep DSt))
    (hf : ∀ (p : Sem Value × Sem Value) (run : List (Sem Value × Sem Value)) (main : Option Addr), run.length + 1 < 17 → f (some p.1, p.2) (main, run) = pure (.yield (main, run ++ [p]))) (main : Option Addr) :
    ∀ (items run : List (Sem Value × Sem Value)), run.length + items.length < 17 → forIn (items.map fun p => (some p.1, p.2)) ((main, run) : DSt) f = pure (main, run ++ items)
  | [], run, _ => by simp
  | p :: rest, run, h => by
    rw [List.map_cons, List.forIn_cons, hf p run main (by simp at h; omega), pure_bind]
    have := forIn_rest f hf main rest (run ++ [p]) (by simp at h ⊢; omega)
    simpa using this
theorem loop_45 (f : (Option (Sem Value) × Sem Value) → DSt → Sem (ForInStep DSt)) (p1 p2 p3 : List (Sem Value × Sem Value)) (h1 : p1.length = 17) (h2 : p2.length = 17) (h3 : p3.length < 17)
    (hf : ∀ (p : Sem Value × Sem Value) (run : List (Sem Value × Sem Value)) (main : Option Addr), run.length + 1 < 17 → f (some p.1, p.2) (main, run) = pure (.yield (main, run ++ [p])))
    (hg : ∀ (p : Sem Value × Sem Value) (run : List (Sem Value × Sem Value)) (main : Option Addr), run.length + 1 = 17 → f (some p.1, p.2) (main, run) = (flushD (run ++ [p]) main >>= fun m => pure (.yield (m, [])))) :
    forIn ((p1 ++ (p2 ++ p3)).map fun p => (some p.1, p.2)) ((none, []) : DSt) f = (flushD p1 none >>= fun m1 => flushD p2 m1 >>= fun m2 => pure (m2, p3)) := by
  rw [List.map_append, List.map_append]
  rw [forIn_chunk f hf hg _ none p1 [] (by simpa using h1) (by intro q; rw [q] at h1; cases h1)]
  refine congrArg (flushD p1 none >>= ·) (funext fun m => ?_)
  rw [forIn_chunk f hf hg _ m p2 [] (by simpa using h2) (by intro q; rw [q] at h2; cases h2)]
  refine congrArg (flushD p2 m >>= ·) (funext fun m' => ?_)
  rw [forIn_rest f hf m' p3 [] (by simpa using h3)]
  rfl
theorem display_45 (p1 p2 p3 : List (Sem Value × Sem Value)) (h1 : p1.length = 17) (h2 : p2.length = 17) (h3 : p3.length < 17) :
    dictDisplay ((p1 ++ (p2 ++ p3)).map fun p => (some p.1, p.2)) = (do
      let m1 ← flushD p1 none
      let m2 ← flushD p2 m1
      match ← flushD p3 m2 with
      | some d => pure (.ref d)
      | none => newDict) := by
  unfold dictDisplay
  dsimp only
  rw [loop_45 _ p1 p2 p3 h1 h2 h3 ?hf ?hg]
  case hf =>
    intro p run main h
    have hne : ((run ++ [(p.1, p.2)]).length == 17) = false := by simp; omega
    simp only [hne, Bool.false_eq_true, if_false]
  case hg =>
    intro p run main h
    have he : ((run ++ [(p.1, p.2)]).length == 17) = true := by simp; omega
    simp only [he, if_true]
    rfl
  rw [bind_assoc]
  refine congrArg (flushD p1 none >>= ·) (funext fun m => ?_)
  rw [bind_assoc]
  refine congrArg (flushD p2 m >>= ·) (funext fun m' => ?_)
  rw [pure_bind]
  rfl
section
variable {prog : Program} {w : World} {A : Around} {E : Value → Shared → Prop}
theorem flush_none {ps : List (Sem Value × Sem Value)} {lits : List (Str × Str)} {s : Shared} {Q : Option Addr → Shared → Prop} (hne : ps ≠ []) (hc : Consts ps lits) (hn : (lits.map (·.1)).Nodup) (hz : lits.length ≤ 1000)
    (hQ : ∀ h' tk' kvs, h'.DictOf (strKind prog w) s.heap.objs.size kvs → Lit kvs lits → Heap.SameBut s.heap.objs.size (s.heap.push { cls := .type "dict", data := .dict #[] }) h' → Q (some s.heap.objs.size) { s with heap := h', toks := tk' }) :
    wpAny (model prog w) A (flushD ps none) Q E s := by
  unfold flushD
  rw [if_neg (by simpa using hne)]
  exact wpAny_bind (subDict_consts hc hn hz fun h' tk' kvs a b c => wpAny_pure (hQ h' tk' kvs a b c))
theorem flush_some {d : Addr} {ps : List (Sem Value × Sem Value)} {lits done : List (Str × Str)} {kvs : List (Str × Value)} {s : Shared} {Q : Option Addr → Shared → Prop} (hne : ps ≠ []) (hc : Consts ps lits) (hd : s.heap.DictOf (strKind prog w) d kvs) (hl : Lit kvs done) (hkv : done ≠ [])
    (hn : ((done ++ lits).map (·.1)).Nodup) (hz : (done ++ lits).length ≤ 1000) (hsys : (s.heap.objs.size == sysModules) = false)
    (hQ : ∀ h' tk' kvs', h'.DictOf (strKind prog w) d kvs' → Lit kvs' (done ++ lits) → (∀ b o, b ≠ d → s.heap.get? b = some o → h'.get? b = some o) → s.heap.objs.size < h'.objs.size → Q (some d) { s with heap := h', toks := tk' }) :
    wpAny (model prog w) A (flushD ps (some d)) Q E s := by
  have hds : d < s.heap.objs.size := by
    ((with_reducible refine Mine.hide fun G9 hG9 => ?_); obtain ⟨o, _, _, ho, _⟩ := hd; refine hG9 ?_; clear hG9 G9)
    exact Heap.lt_size ho
  have hnl : (lits.map (·.1)).Nodup := by
    rw [List.map_append, List.nodup_append] at hn
    exact hn.2.1
  rw [List.length_append] at hz
  unfold flushD
  rw [if_neg (by simpa using hne)]
  refine wpAny_bind (wpAny_holding (subDict_consts hc hnl (by omega) fun h' tk' kvs' a b c => ?_))
  have hd' : h'.DictOf (strKind prog w) d kvs := (hd.push _).sameBut c (Nat.ne_of_lt hds)
  refine wpAny_bind (wpAny_onRaise (wpAny_holding (merge_new (knd := strKind prog w) (Nat.ne_of_lt hds) hsys hd' ?_ a ?_ ?_ fun h'' hd'' hs'' => wpAny_pure ?_)))
  · intro q
    rw [q] at hl
    cases hl
    exact hkv rfl
  · rw [List.map_append, hl.keys, b.keys, ← List.map_append]; exact hn
  · rw [hl.length, b.length, sizeLine_eq]; omega
  · refine hQ h'' tk' _ hd'' (hl.append b) (fun x o hx ho => ?_) ?_
    · rw [hs''.2 x hx, c.2 x (Nat.ne_of_lt (Heap.lt_size ho))]
      exact Heap.get?_push_of_some _ ho
    · have e1 : h''.objs.size = h'.objs.size := hs''.1
      have e2 : h'.objs.size = _ := c.1
      rw [Heap.size_push] at e2
      omega
end
end Mine
end
section
open PySem.Spec
namespace Mine
def strLit : PySem.Expr → Option Str
  | .Constant (.str k) _ _ => some k
  | _ => none
theorem strLit_inv {e : PySem.Expr} {k : Str} (h : strLit e = some k) : ∃ p q, e = .Constant (.str k) p q := by
  unfold strLit at h
  split at h
  · cases h; exact ⟨_, _, rfl⟩
  · cases h
def litPairs : List (Option PySem.Expr) → List PySem.Expr → List (Str × Str)
  | k :: ks, v :: vs => ((k.bind strLit).getD (Str.ofString ""), (strLit v).getD (Str.ofString "")) :: litPairs ks vs
  | _, _ => []
def allLit : List (Option PySem.Expr) → List PySem.Expr → Bool
  | k :: ks, v :: vs => (k.bind strLit).isSome && ((strLit v).isSome && allLit ks vs)
  | [], [] => true
  | _, _ => false
theorem allLit_cons {k : Option PySem.Expr} {ks : List (Option PySem.Expr)} {v : PySem.Expr} {vs : List PySem.Expr} (h : allLit (k :: ks) (v :: vs) = true) : (∃ x p q, k = some (.Constant (.str x) p q)) ∧ (∃ x p q, v = .Constant (.str x) p q) ∧ allLit ks vs = true := by
  have h' : ((k.bind strLit).isSome && ((strLit v).isSome && allLit ks vs)) = true := h
  rw [Bool.and_eq_true, Bool.and_eq_true] at h'
  obtain ⟨h1, h2, h3⟩ := h'
  obtain ⟨x, hx⟩ := Option.isSome_iff_exists.mp h1
  obtain ⟨y, hy⟩ := Option.isSome_iff_exists.mp h2
  cases k with
  | none => cases hx
  | some e =>
    obtain ⟨p, q, rfl⟩ := strLit_inv (show strLit e = some x from hx)
    obtain ⟨p', q', rfl⟩ := strLit_inv hy
    exact ⟨⟨x, p, q, rfl⟩, ⟨y, p', q', rfl⟩, h3⟩
theorem consts_of (env : Env) (pos : Pos) : ∀ (keys : List (Option PySem.Expr)) (values : List PySem.Expr), allLit keys values = true → Consts (pairTrees keys values env pos) (litPairs keys values)
  | [], [], _ => .nil
  | k :: ks, v :: vs, h => by
    ((with_reducible refine Mine.hide fun G9 hG9 => ?_); obtain ⟨⟨x, p, q, rfl⟩, ⟨y, p', q', rfl⟩, h3⟩ := allLit_cons h; refine hG9 ?_; clear hG9 G9)
    exact .cons (by intro M A E s Q h; show wpAny M A (eval _ env) Q E s; exact Calls.Constant_str h) (by intro M A E s Q h; show wpAny M A (eval _ env >>= _) Q E s; exact wpAny_bind (Calls.Constant_str (wpAny_bind (wpAny_standAt (wpAny_pure h))))) (consts_of env pos ks vs h3)
theorem allLit_some : ∀ (keys : List (Option PySem.Expr)) (values : List PySem.Expr), allLit keys values = true → keys.all (·.isSome) = true ∧ keys.length = values.length
  | [], [], _ => ⟨rfl, rfl⟩
  | k :: ks, v :: vs, h => by
    obtain ⟨⟨x, p, q, rfl⟩, _, h3⟩ := allLit_cons h
    obtain ⟨a, b⟩ := allLit_some ks vs h3
    exact ⟨by simpa using a, by simp [b]⟩
theorem Consts.take {p : List (Sem Value × Sem Value)} {l : List (Str × Str)} (h : Consts p l) : ∀ n, Consts (p.take n) (l.take n) := by
  induction h with
  | nil => intro n; rw [List.take_nil, List.take_nil]; exact .nil
  | cons a b _ ih =>
    intro n
    cases n with
    | zero => exact .nil
    | succ n => exact .cons a b (ih n)
theorem Consts.drop {p : List (Sem Value × Sem Value)} {l : List (Str × Str)} (h : Consts p l) : ∀ n, Consts (p.drop n) (l.drop n) := by
  induction h with
  | nil => intro n; rw [List.drop_nil, List.drop_nil]; exact .nil
  | cons a b h ih =>
    intro n
    cases n with
    | zero => exact .cons a b h
    | succ n => exact ih n
theorem Consts.length {p : List (Sem Value × Sem Value)} {l : List (Str × Str)} (h : Consts p l) : p.length = l.length := by
  induction h with
  | nil => rfl
  | cons _ _ _ ih => simp [ih]
section
variable {prog : Program} {w : World} {A : Around} {E : Value → Shared → Prop} {s : Shared} {env : Env} {h₀ : Heap} {L : Addr} {m : Str → Option Value} {news : Led}
theorem big_dict {keys : List (Option PySem.Expr)} {values : List PySem.Expr} {pos : Pos} {Q : Value → Shared → Prop} (F : Fr h₀ L s.heap m) (N : News h₀ L s.heap news) (hbig : sysModules < h₀.objs.size)
    (hl : allLit keys values = true) (hn : ((litPairs keys values).map (·.1)).Nodup) (h34 : 34 < keys.length) (h51 : keys.length < 51)
    (k : ∀ d o kvs h' tk', Fr h₀ L h' m → News h₀ L h' ((d, o) :: news) → o.IsDictOf (strKind prog w) kvs → Lit kvs (litPairs keys values) → (d == sysModules) = false → (∀ p ∈ news, p.1 < d) → Q (.ref d) { s with heap := h', toks := tk' }) :
    wpAny (model prog w) A (eval (.Dict keys values pos) env) Q E s := by
  obtain ⟨hall, hlen⟩ := allLit_some keys values hl
  rw [arm_eval_Dict, zip_pairTrees keys values env pos hall hlen]
  have hc := consts_of env pos keys values hl
  have hpl := pairTrees_length keys values env pos hall hlen
  generalize pairTrees keys values env pos = P at hc hpl ⊢
  generalize litPairs keys values = LT at hc hn k ⊢
  have hLl : LT.length = keys.length := by rw [← hc.length, hpl]
  refine wpAny_bind (wpAny_standAt ?_)
  have e1 : P = P.take 17 ++ ((P.drop 17).take 17 ++ (P.drop 17).drop 17) := by rw [List.take_append_drop, List.take_append_drop]
  have e2 : LT = LT.take 17 ++ ((LT.drop 17).take 17 ++ (LT.drop 17).drop 17) := by rw [List.take_append_drop, List.take_append_drop]
  have l1 : (P.take 17).length = 17 := by rw [List.length_take]; omega
  have l2 : ((P.drop 17).take 17).length = 17 := by rw [List.length_take, List.length_drop]; omega
  have l3 : 0 < ((P.drop 17).drop 17).length ∧ ((P.drop 17).drop 17).length < 17 := by rw [List.length_drop, List.length_drop]; omega
  have c1 := hc.take 17
  have c2 := (hc.drop 17).take 17
  have c3 := (hc.drop 17).drop 17
  rw [e1, display_45 _ _ _ l1 l2 l3.2]
  have q1 := c1.length
  have q2 := c2.length
  have q3 := c3.length
  rw [e2] at hn k
  generalize P.take 17 = P1 at *
  generalize (P.drop 17).take 17 = P2 at *
  generalize (P.drop 17).drop 17 = P3 at *
  generalize LT.take 17 = L1 at *
  generalize (LT.drop 17).take 17 = L2 at *
  generalize (LT.drop 17).drop 17 = L3 at *
  have ne1 : P1 ≠ [] := fun q => by rw [q] at l1; cases l1
  have ne2 : P2 ≠ [] := fun q => by rw [q] at l2; cases l2
  have ne3 : P3 ≠ [] := fun q => by rw [q] at l3; exact absurd l3.1 (by decide)
  have nl1 : L1 ≠ [] := fun q => by rw [q] at q1; rw [l1] at q1; cases q1
  have hn12 : ((L1 ++ L2).map (·.1)).Nodup := by
    rw [← List.append_assoc, List.map_append, List.nodup_append] at hn
    exact hn.1
  have hn1 : (L1.map (·.1)).Nodup := by
    rw [List.map_append, List.nodup_append] at hn
    exact hn.1
  have big : ∀ h : Heap, s.heap.objs.size ≤ h.objs.size → (h.objs.size == sysModules) = false := fun h hh => by
    exact beq_eq_false_iff_ne.mpr (Nat.ne_of_gt (Nat.lt_of_lt_of_le (Nat.lt_trans hbig (Nat.lt_of_le_of_lt F.above F.ns.lt)) hh))
  have hd0 := big s.heap (Nat.le_refl _)
  refine wpAny_bind (flush_none ne1 c1 hn1 (by omega) fun h1 tk1 k1 a1 b1 s1 => ?_)
  have z1 : h1.objs.size = s.heap.objs.size + 1 := by have := s1.1; rw [Heap.size_push] at this; exact this
  refine wpAny_bind (flush_some (s := { s with heap := h1, toks := tk1 }) ne2 c2 a1 b1 nl1 hn12 (by rw [List.length_append]; omega) (big h1 (by omega)) fun h2 tk2 k2 a2 b2 s2 z2 => ?_)
  dsimp only at s2 z2
  refine wpAny_bind (flush_some (s := { s with heap := h2, toks := tk2 }) ne3 c3 a2 b2 (by simp [nl1]) (by rw [List.append_assoc]; exact hn) (by rw [List.length_append, List.length_append]; omega) (big h2 (by omega)) fun h3 tk3 k3 a3 b3 s3 z3 => ?_)
  dsimp only at s3 z3
  refine wpAny_pure ?_
  obtain ⟨o, ho, hd⟩ := Heap.dictOf_iff.mp a3
  have keep : ∀ b x, s.heap.get? b = some x → h3.get? b = some x := fun b x hb => by
    have hne : b ≠ s.heap.objs.size := Nat.ne_of_lt (Heap.lt_size hb)
    refine s3 b x hne (s2 b x hne ?_)
    rw [s1.2 b hne]
    exact Heap.get?_push_of_some _ hb
  refine k _ o k3 h3 tk3 (F.keeps keep) ?_ hd (by rw [List.append_assoc] at b3; exact b3) hd0 (fun p hp => Heap.lt_size (N p hp).1)
  intro p hp
  rcases List.mem_cons.mp hp with rfl | hp
  · refine ⟨ho, Nat.ne_of_gt F.ns.lt, ?_⟩
    cases hq : h₀.get? s.heap.objs.size with
    | none => rfl
    | some o' => exact absurd (Heap.lt_size (F.keep _ _ hq)) (Nat.lt_irrefl _)
  · exact ⟨keep _ _ (N p hp).1, (N p hp).2⟩
end
theorem Dict_stop {M : Model} {A : Around} {E : Value → Shared → Prop} {s : Shared} {env : Env} {ks : List (Option PySem.Expr)} {vs : List PySem.Expr} {pos : Pos} {Q : Value → Shared → Prop}
    (h : Stop (wpAny M A (eval (.Dict ks vs pos) env) Q E s)) : wpAny M A (eval (.Dict ks vs pos) env) Q E s := h.out
end Mine
end
local macro_rules | `(tactic| walk_at "eval Dict") => `(tactic| ((with_reducible show wpAny _ _ (eval (PySem.Expr.Dict (_ :: _ :: _ :: _ :: _ :: _ :: _ :: _ :: _ :: _ :: _ :: _ :: _ :: _ :: _ :: _ :: _ :: _) _ _) _) _ _ _); refine Mine.Dict_stop ?_))
section
open PySem.Spec
namespace Mine
theorem shapes_spec (w : World) (news : Led) :
    Spec w 1 54 [] news (Shapes w news) := by
  unfold Spec
  intro mean mg mb dp un gd cn cs a ccd cl outer A₀ base h₀ L m s Q E B F X N T hk hdp hun hret
  (have _ : (PySem.Challenge.rw_sa0141_01 = PySem.Challenge.rw_sa0141_01) ∧ (HD.heap_39 = HD.heap_39) := by k_fill; exact ⟨rfl, rfl⟩)
  refine wpAny_call ?_
  k_dflt cell_enter
  k_steps
  rename Fr _ _ _ _ => F1
  rename News _ _ _ _ => N1
  rename Top _ _ _ _ _ _ => T1
  have hbig := modules_low (Top.nolimit T1)
  refine Stop.mk ?_
  with_reducible refine' big_dict F1 N1 hbig ?a ?b ?c ?d ?e
  case a => decide +kernel
  case b => decide +kernel
  case c => decide
  case d => decide
  case e =>
    intro d o kvs h1 tk1 F2 N2 hd hL hsys hlt
    clear F1 N1
    k_steps
    refine hret _ _ _ _ (by k_asm) (by k_asm) ⟨d, o, kvs, rfl, .head _, hd, hsys, ?_, fun p hp => .tail _ hp, hlt⟩
    intro r
    cases r <;> (dsimp only [RowD.name, RowD.kinds]; exact hL.at (by decide +kernel))
end Mine
end
section
open PySem.Spec
namespace Mine
theorem figures_spec (w : World) (l : Addr) (vs : List Value) (ns : List Int) (hI : IntsAre vs ns) (hlen : ns.length ≤ 63) (news : Led)
  (mean : ExcName → Option Value) (mg mb : Str → Option Value) (dp un : Nat) (gd : Option (List Code)) (cn : Str) (cs : Scope) (a : Addr) (ccd : Value) (cl : List (Str × Addr)) (outer : List Env) (A₀ : Around) (base h₀ : Heap) (L : Addr) (m : Str → Option Value) (s : Shared) (Q E : Value → Shared → Prop)
    (B : Below A₀ base outer h₀) (F : Fr h₀ L s.heap m) (X : (HD.heap_39 w.params).In h₀) (N : News h₀ L s.heap news) (T : Top HD.view_39 (looseW HD.view_39 [Str.ofString "LinkFault"]) mean mg mb h₀) (hk : cs.kind = .function)
    (hl : h₀.IsList l vs.toArray)
    (hdp : dp + 1 < recursionLimit) (hun : un + 100 * 1 < cLine)
    (hret : ∀ r news' h' tk', Fr h₀ L h' m → News h₀ L h' news' → (∃ f o, r = .ref f ∧ (f, o) ∈ news' ∧ Figs o ∧ (∀ p ∈ news, p ∈ news') ∧ ∀ p ∈ news, p.1 < f) → Q r { s with heap := h', toks := tk' }) :
    wpAny (model PG w) (ktrTop dp un gd cn cs L a ccd cl outer) (call (.ref 82) [.ref l]) Q E s := by
  (have _ : (PySem.Challenge.rw_sa0141_01 = PySem.Challenge.rw_sa0141_01) ∧ (HD.heap_39 = HD.heap_39) := by k_fill; exact ⟨rfl, rfl⟩)
  refine wpAny_call ?_
  k_dflt cell_enter
  rename Fr _ _ _ _ => F0
  have F1 : Fr _ _ _ (fun y => List.lookup y [(Str.ofString "script", .ref l)]) := F0
  clear F0
  rename Fr h₀ L _ m => FG
  have hl1 : Heap.IsList _ l vs.toArray := let ⟨o, ho, r⟩ := hl; ⟨o, FG.keep _ _ ho, r⟩
  k_steps
  rename Fr _ _ _ _ => F2
  rename News _ _ _ _ => N2
  rename _ ∧ AllLt _ news => hlt
  rename IntsAre _ (List.take 30 ns) => hI2
  rename_i lf hx hnf hs D ws hh hC hL
  have hwl : ws.length ≤ 30 := by rw [hI2.length, List.length_take]; omega
  have hDf : D ≠ lf := (Nat.ne_of_lt hlt.1).symm
  have hnD := allLt_lt hlt.2
  refine list_loop (l := D) (vs := ws) (nn := 0) (fun i m nx => ∃ us ms k, nx = (D, listOf ws.toArray 0) :: (lf, listOf us.toArray k) :: news ∧ IntsAre us ms ∧ us.length ≤ 24 * i ∧ Vars m [(Str.ofString "figures", .ref lf)]) rfl F2 N2 (.head _) ⟨[], [], 0, rfl, .nil, Nat.le_refl _, rfl, trivial⟩ ?_ ?_
  · (intro i v m1 nx h1 tk1 own hvi hoff _ h99 F3 N3; (with_reducible refine Mine.hide fun G9 hG9 => ?_); rcases h99 with ⟨us, ms, k, rfl, hus, hul, V⟩ <;> (refine hG9 ?_; clear hG9 G9))
    ((with_reducible refine Mine.hide fun G9 hG9 => ?_); obtain ⟨c, tc, rfl, hc⟩ := IntsAre.at hI2 i v hvi; refine hG9 ?_; clear hG9 G9)
    have hi30 : i < 30 := by
      have := (List.getElem?_eq_some_iff.mp hvi).1
      omega
    have F4 := Fr.vars V F3
    have N4 : News _ _ h1 ((D, listOf ws.toArray 0) :: (lf, listOf us.toArray k) :: (news ++ own)) := N3
    have e2 : ∀ p ∈ news ++ own, p.1 ≠ lf := fun p hp => (List.mem_append.mp hp).elim (lt_ne hnf p) fun hp => hoff p hp lf (by simp)
    clear F3 N3 F2 N2
    k_steps
    all_goals
      rename IsRange _ _ _ _ _ _ _ _ => hR
      rename Fr _ _ _ _ => F5
      rename News _ _ _ _ => N5
      refine range_loop (n := 24) (fun j m nx => ∃ us' ms' k' x t, nx = (D, listOf ws.toArray 0) :: (lf, listOf us'.toArray k') :: (news ++ own) ∧ IntsAre us' ms' ∧ us'.length ≤ 24 * i + j ∧ Vars m [(Str.ofString "figures", .ref lf), (Str.ofString "whole", .int x t)]) rfl hR (by rfl) (by decide) F5 N5 ⟨us, ms, k, _, _, rfl, hus, by omega, rfl, rfl, trivial⟩ ?_ ?_
      · (intro j tj m2 nx h2 tk2 own2 hj hoff2 h99 F6 N6; (with_reducible refine Mine.hide fun G9 hG9 => ?_); rcases h99 with ⟨us', ms', k', x, tx, rfl, hus', hul', V2⟩ <;> (refine hG9 ?_; clear hG9 G9))
        have F7 := Fr.vars V2 F6
        have N7 : News _ _ h2 ((D, listOf ws.toArray 0) :: (lf, listOf us'.toArray k') :: ((news ++ own) ++ own2)) := N6
        have e3 : ∀ p ∈ (news ++ own) ++ own2, p.1 ≠ lf := fun p hp => (List.mem_append.mp hp).elim (e2 p) fun hp => hoff2 p hp lf (by simp)
        have hul2 : us'.length ≤ 800 := by omega
        clear F6 N6 F5 N5
        k_steps
        · rename Fr _ _ _ _ => F9
          rename News _ _ _ _ => N9
          rw [List.push_toArray] at N9
          refine InvEndG.intro (nx := (D, _) :: (lf, _) :: news) F9 N9 ⟨.head _, us' ++ [_], _, _, rfl, ints_push hus', ?_, rfl, trivial⟩ hoff (sub_cons (sub_cons fun q hq => List.mem_append_left _ (List.mem_append_left _ hq))) (fun q hq => .tail _ (.tail _ (List.mem_append_left _ (List.mem_append_right _ hq))))
          rw [List.length_append, List.length_singleton]; omega
        · rename Fr _ _ _ _ => F9
          rename News _ _ _ _ => N9
          rw [List.push_toArray] at N9
          refine InvEndG.intro (nx := (D, _) :: (lf, _) :: (news ++ own)) F9 N9 ⟨us' ++ [_], _, _, _, _, rfl, ints_push hus', ?_, rfl, rfl, trivial⟩ hoff2 (sub_cons (sub_cons sub_left)) (sub_tail (sub_tail sub_right))
          rw [List.length_append, List.length_singleton]; omega
      · (intro m2 nx h2 tk2 h99 F6 N6; (with_reducible refine Mine.hide fun G9 hG9 => ?_); rcases h99 with ⟨us', ms', k', x, tx, rfl, hus', hul', V2⟩ <;> (refine hG9 ?_; clear hG9 G9))
        have F7 := Fr.vars' V2 F6
        clear F6 F5 N5
        k_steps
        refine InvEndG.intro (nx := (D, _) :: (lf, _) :: news) F7 N6 ⟨.head _, us', _, _, rfl, hus', by omega, rfl, trivial⟩ hoff (sub_cons (sub_cons sub_left)) (sub_tail (sub_tail sub_right))
  · (intro m1 nx h1 tk1 h99 F3 N3; (with_reducible refine Mine.hide fun G9 hG9 => ?_); rcases h99 with ⟨us, ms, k, rfl, hus, hul, V⟩ <;> (refine hG9 ?_; clear hG9 G9))
    have F4 := Fr.vars' V F3
    have hul3 : us.length ≤ 720 := by omega
    clear F3 F2 N2
    k_steps
    rename Fr _ _ _ _ => F9
    rename News _ _ _ _ => N9
    rename IntsAre _ (List.take 90 _) => hI9
    rename _ ∧ _ ∧ AllLt _ news => hlt9
    have hw9 : (List.take 90 ms).length ≤ 90 := by rw [List.length_take]; omega
    refine kl_reverse F9 N9 rfl (.head fun p hp => ?_) ?_ fun h9 F10 N10 => ?_
    · rcases List.mem_cons.mp hp with rfl | hp
      · exact Nat.ne_of_lt hlt9.1
      rcases List.mem_cons.mp hp with rfl | hp
      · exact Nat.ne_of_lt hlt9.2.1
      exact Nat.ne_of_lt (allLt_lt hlt9.2.2 p hp)
    · rw [sizeLine_eq]
      have := hI9.length
      simp only [List.length_reverse] at *
      omega
    · clear F9 N9
      dsimp only
      k_steps
      refine hret _ _ _ _ (by k_asm) (by k_asm) ⟨_, _, rfl, .head _, ⟨_, _, _, rfl, IntsAre.reverse hI9, ?_⟩, fun p hp => .tail _ (.tail _ (.tail _ hp)), allLt_lt hlt9.2.2⟩
      rw [List.length_reverse, hI9.length]
      omega
end Mine
end
section
open PySem.Spec
namespace Mine
/-- a turn that ends as it should -/
def InvN (h₀ : Heap) (L : Addr) (J : (Str → Option Value) → Led → Prop) (own : Led) (s₁ : Shared) (f : Flow) (s₂ : Shared) : Prop := f = .next ∧ InvEndG h₀ L J own s₁ s₂
section
variable {prog : Program} {w : World} {A : Around} {E : Value → Shared → Prop} {s : Shared} {env : Env} {h₀ : Heap} {target : PySem.Expr} {body : List Stmt} {Q : Flow → Shared → Prop}
theorem For_cell {x : Str} {px pos : Pos} {iter : PySem.Expr} {m : Str → Option Value}
    (F : Fr h₀ env.locals s.heap m) (hx : env.kindOf x = some .cell)
    (h : wpAny (model prog w) A (eval iter env) (fun xv s₁ => Stop (wpAny (model prog w) A (pyIter xv) (fun it s₂ => LoopAtT prog w A h₀ env (.Name x px) body Q E it s₂) E s₁)) E s)
    (hs : ∀ x, foldedSetIterable iter env x = pure x := by intro _; rfl)
    (hE : PassesOwn (model prog w) A env E := by passes_own) :
    wpAny (model prog w) A (exec (.For (.Name x px) iter body [] pos) env) Q E s :=
  For_invTF F (wpAny_mono h (fun _ _ q => q.out) fun _ _ e => e) hs hE
theorem cell_loop {l : Addr} {vs : List Value} {nn : Nat} {x : Str} {px : Pos} {m₀ : Str → Option Value} {news : Led} (J : Nat → (Str → Option Value) → Led → Prop)
    (hh : A.handled = none) (F : Fr h₀ env.locals s.heap m₀) (N : News h₀ env.locals s.heap news) (hl : (l, listOf vs.toArray nn) ∈ news) (hj : J 0 m₀ news)
    (turn : ∀ i v m₁ nx (s₁ : Shared) own, vs[i]? = some v → OwnOff own (nx.map (·.1)) → (l, listOf vs.toArray nn) ∈ nx → J i m₁ nx → Fr h₀ env.locals s₁.heap m₁ → News h₀ env.locals s₁.heap (nx ++ own) →
      wpAny (model prog w) A (assign (.Name x px) env v) (fun _ s₃ => wpAny (model prog w) A (execs body env) (InvN h₀ env.locals (fun m' nx => (l, listOf vs.toArray nn) ∈ nx ∧ J (i + 1) m' nx) own s₁) E s₃) E s₁)
    (done : ∀ m₁ nx h tk, J vs.length m₁ nx → Fr h₀ env.locals h m₁ → News h₀ env.locals h nx → Q .next { s with heap := h, toks := tk }) :
    Stop (wpAny (model prog w) A (pyIter (.ref l)) (fun it s₂ => LoopAtT prog w A h₀ env (.Name x px) body Q E it s₂) E s) := by
  refine Stop.mk ?_
  have hol : s.heap.get? l = some (listOf vs.toArray nn) := (N _ hl).1
  have hls : s.heap.IsList l vs.toArray := ⟨_, hol, rfl, nn, rfl⟩
  have hne : l ≠ s.heap.objs.size := Nat.ne_of_lt (Heap.lt_size hol)
  refine wpAny_pyIter_list hls ?_
  have W := Walks.list (prog := prog) (w := w) hh s.heap.objs.size l hne vs.toArray
  have hlen : vs.toArray.size = vs.length := by simp
  rw [hlen] at W
  refine ⟨_, _, _, vs.length, _, _, m₀, news, (fun i m nx => (l, listOf vs.toArray nn) ∈ nx ∧ J i m nx), rfl, W, ?_, ?_, ?_, ⟨⟨_, Heap.get?_push_size _ rfl, rfl, rfl⟩, hls.at fun o e => Heap.get?_push_of_some _ e⟩, F.push _, (fun p hp => ⟨Heap.get?_push_of_some _ (N p hp).1, (N p hp).2⟩), ?_, ⟨hl, hj⟩, ?_, ?_⟩
  · intro hm
    rcases List.mem_cons.mp hm with e | hm
    · exact absurd F.ns.lt (e ▸ Nat.lt_irrefl _)
    · exact (N _ hl).2.1 ((List.mem_singleton.mp hm).symm)
  · intro b hb
    rw [List.mem_singleton.mp hb]
    exact next_is_new F
  · intro p hp hI
    exact absurd (Heap.lt_size (N p hp).1) ((List.mem_singleton.mp hI) ▸ Nat.lt_irrefl _)
  · intro i s' v Q' _ hq
    exact wpAny_pure hq
  · rintro i v m₁ news₁ s₁ own hin hP ⟨hl₁, hJ⟩ hoff hown hget hfp hst F₁ N₁
    have hP' : vs[i]? = some v := by simpa using hP
    have hI0 : h₀.get? s.heap.objs.size = none := next_is_new F
    obtain ⟨⟨oI, hoI, _⟩, _⟩ := id hst
    have hIown : (s.heap.objs.size, oI) ∈ own.filter fun p => decide (p.1 = s.heap.objs.size) := List.mem_filter.mpr ⟨hfp _ (List.mem_cons.mpr (.inl rfl)) hI0 _ hoI, by simp⟩
    have hsep : OwnOff (own.filter fun p => decide (p.1 = s.heap.objs.size)) (news₁.map (·.1)) := by
      intro p hp b hb e
      obtain ⟨q, hq, rfl⟩ := List.mem_map.mp hb
      have h1 : p.1 = s.heap.objs.size := by simpa using (List.mem_filter.mp hp).2
      exact hoff q hq (List.mem_singleton.mpr (e ▸ h1))
    have N₂ : News h₀ env.locals s₁.heap (news₁ ++ own.filter fun p => decide (p.1 = s.heap.objs.size)) := fun p hp => N₁ p ((List.mem_append.mp hp).elim (fun h => List.mem_append.mpr (.inr h)) fun h => List.mem_append.mpr (.inl ((List.mem_filter.mp h).1)))
    have hlo : s₁.heap.get? l = some (listOf vs.toArray nn) := (N₁ _ (List.mem_append.mpr (.inr hl₁))).1
    refine wpAny_mono (turn i v m₁ news₁ s₁ _ hP' hsep hl₁ hJ F₁ N₂) (fun _ s₃ q => wpAny_mono q (fun f s₂ p => ?_) fun _ _ e => e) fun _ _ e => e
    ((with_reducible refine Mine.hide fun G9 hG9 => ?_); obtain ⟨rfl, h', tk, m', news', nx, e, F', N', hn, ho, ha, hm⟩ := p; refine hG9 ?_; clear hG9 G9)
    refine ⟨rfl, h', tk, m', nx, e, F', fun p hp => ?_, fun p hp hq => ?_, hm⟩
    · rcases List.mem_append.mp hp with h | h
      · by_cases hI : p.1 = s.heap.objs.size
        · exact N' p (ho p (List.mem_filter.mpr ⟨h, by simpa using hI⟩))
        · have h1 : p.1 = l := by
            rcases List.mem_cons.mp (hown p h) with h2 | h2
            · exact absurd h2 hI
            · exact List.mem_singleton.mp h2
          have h2 : s₁.heap.get? p.1 = some p.2 := hget p h
          rw [h1, hlo] at h2
          have h3 : p = (l, listOf vs.toArray nn) := Prod.ext h1 (Option.some.inj h2).symm
          rw [h3]
          exact N' _ (hn _ hm.1)
      · exact N' p (hn p h)
    · exact ha _ hIown p.1 (List.mem_map.mpr ⟨p, hp, rfl⟩) (List.mem_singleton.mp hq).symm
  · rintro h' tk m' news' F' N' _ ⟨_, hJ⟩
    exact done m' news' h' tk hJ F' N'
end
end Mine
end
local macro_rules | `(tactic| walk_at "exec For Name Name cons nil") => `(tactic| (k_here; (rename Fr _ _ _ _ => lF'); (with_unfolding_all refine' Mine.For_cell lF' ?k1 ?_; (case k1 => exact rfl); k_whole)))
section
open PySem.Spec
namespace Mine
theorem slice_tupD {prog : Program} {w : World} {A : Around} {E : Value → Shared → Prop} {s : Shared} {h₀ : Heap} {L : Addr} {m : Str → Option Value} {news : Led} {value slice : PySem.Expr} {t : Addr} {items : Array Value} {a : Nat} {u : Tok} {Q : Value → Shared → Prop}
    (F : Fr h₀ L s.heap m) (N : News h₀ L s.heap news) (ht : IsTup s.heap t items) (h1 : 1 ≤ a) (ha : a ≤ items.size)
    (h : ∀ D h', Fr h₀ L h' m → News h₀ L h' ((D, { cls := .type "tuple", data := .seq (items.toList.drop a).toArray }) :: news) → (∀ p ∈ news, p.1 < D) → Q (.ref D) { s with heap := h' })
    (hs : subscripted slice false (.ref t) (.ref s.heap.objs.size) = operate [.ref s.heap.objs.size, .ref t] (getItem (.ref t) (.ref s.heap.objs.size)) := by with_unfolding_all rfl)
    (hg : ∀ r, letTemporaryGo value (.ref t) r = pure () := by intro _; with_unfolding_all rfl)
    (hsz : items.size ≤ sizeLine := by size_fits) :
    wpAny (model prog w) A (subscriptTail value slice (.ref t) (.ref s.heap.objs.size)) Q E { s with heap := s.heap.push { cls := .type "slice", data := .fields #[.int a u, .none, .none] } } :=
  slice_tuple_from F N ht h1 ha (fun h' F' N' => h _ h' F' N' fun p hp => Nat.lt_succ_of_lt (Heap.lt_size (N p hp).1)) hs hg hsz
end Mine
end
local macro_rules | `(tactic| walk_at "subscriptTail Name Slice ref ref") => `(tactic| (k_here; (with_reducible show wpAny _ _ (subscriptTail _ _ (Value.ref _) (Value.ref _)) _ _ _); with_unfolding_all (refine Mine.slice_tupD (by assumption) (by assumption) (News.isTup (by assumption) (by k_mem)) (by decide) (Nat.le_of_ble_eq_true rfl) ?_); intro D' h' F' N' l1'; (try dsimp only [List.drop] at N'); (try k_lt l1')))
section
open PyProof.Rows.LCg PySem.Spec
namespace Mine
abbrev tupA (its : Array Value) (k : Nat) : Obj := { cls := .type "tuple", data := .seq its k }
section
variable {prog : Program} {w : World} {A : Around} {E : Value → Shared → Prop} {s : Shared} {h₀ : Heap} {L : Addr} {m : Str → Option Value} {env : Env}
/-- a comprehension whose source is a tuple of the ledger -/
def SrcTup (prog : Program) (w : World) (A : Around) (h₀ : Heap) (L : Addr) (m : Str → Option Value) (env : Env) (elt : PySem.Expr) (x : Str) (scope : Scope) (cl : List (Str × Addr)) (Q : Value → Shared → Prop) (xv : Value) (s₁ : Shared) : Prop :=
  ∃ ax its k news, xv = .ref ax ∧ A.handled = none ∧ Fr h₀ L s₁.heap m ∧ News h₀ L s₁.heap news ∧ (ax, tupA its k) ∈ news ∧ its.size ≤ sizeLine ∧
    ∀ s₂ : Shared, (∃ h, s₂ = { s₁ with heap := h }) → CompRest prog w A h₀ L m env elt x scope cl s₂ (fun nw => (ax, tupA its k) ∈ nw) (fun i v => its[i]? = some v) (FinE h₀ L m s₂ Q) its.size 0 [] news
theorem tup_st {ax I : Addr} {its : Array Value} {k : Nat} : ∀ i (h h' : Heap) (o : Obj) (nw : Led), (h.IsTupleIter I ax i ∧ h.IsTuple ax its) → h.get? I = some o → h'.get? I = some o → (∀ b o, h₀.get? b = some o → h'.get? b = some o) → News h₀ L h' nw → (ax, tupA its k) ∈ nw → (h'.IsTupleIter I ax i ∧ h'.IsTuple ax its) :=
  fun i h h' o nw st e e' _ N S => ⟨st.1.at fun o' q => by rw [e] at q; cases q; exact e', ⟨_, (N _ S).1, rfl, _, rfl⟩⟩
theorem ListComp_tup {elt iter : PySem.Expr} {x : Str} {px : Pos} {scope : Scope} {cl : List (Str × Addr)} {pos : Pos} {Q : Value → Shared → Prop} (F₀ : Fr h₀ L s.heap m)
    (hclos : closureFor scope env = pure cl) (hcell : ∀ y ∈ scope.names, y.2 ≠ .cell) (hkind : scope.kind = .function)
    (hnames : ∀ y ∈ scope.names, y.2 = .local → scope.names.lookup y.1 = some .local) (hx : scope.names.lookup x = some .local)
    (h : wpAny (model prog w) A (eval iter env) (fun xv s₁ => Stop (SrcTup prog w A h₀ L m env elt x scope cl Q xv s₁)) E s)
    (hs : ∀ x, foldedSetIterable iter env x = pure x := by intro _; rfl) :
    wpAny (model prog w) A (eval (.ListComp elt [⟨.Name x px, iter, [], 0⟩] scope pos) env) Q E s := by
  rw [eval_ListComp]
  refine wpAny_comprehension_free (use := none) rfl hs hclos hkind hnames (wpAny_mono h (fun xv s₁ h₁ => ?_) fun _ _ e => e)
  ((with_reducible refine Mine.hide fun G9 hG9 => ?_); obtain ⟨ax, its, k, news, rfl, hh, F, N, S, hsz, R⟩ := h₁.out; refine hG9 ?_; clear hG9 G9)
  have hl : s₁.heap.IsTuple ax its := ⟨_, (N _ S).1, rfl, _, rfl⟩
  have hlt : ax < s₁.heap.objs.size := Heap.lt_size (N _ S).1
  refine wpAny_pyIter_tuple hl ?_
  have up : ∀ b o, s₁.heap.get? b = some o → (s₁.heap.push { cls := .type "tuple_iterator", data := .fields #[.ref ax, .int 0 0] }).get? b = some o := fun b o e => Heap.get?_push_of_some _ e
  refine block_U (Walks.tuple hh s₁.heap.objs.size ax (Nat.ne_of_lt hlt) its) hsz (fun i h st => by obtain ⟨o, e, _⟩ := st.1; exact ⟨o, e⟩) tup_st hcell hkind hx ⟨⟨_, Heap.get?_push_size _ rfl, rfl, rfl⟩, ⟨_, up _ _ (N _ S).1, rfl, _, rfl⟩⟩ (fun b hb => ?_)
    (F.keeps up) (N.grown up) (Nat.ne_of_lt F.ns.lt) (next_is_new F) (fun p hp => Nat.ne_of_lt (Heap.lt_size (N p hp).1)) S (R _ ⟨_, rfl⟩) ?_
  · show b < (s₁.heap.push _).objs.size
    rw [Heap.size_push]
    rcases List.mem_cons.mp hb with rfl | hb
    · exact Nat.lt_succ_self _
    · rw [List.mem_singleton.mp hb]; exact Nat.lt_succ_of_lt hlt
  · intro D C h tk m' ys news' F' N' o1 hn hC₀ hD₀ hCL hDL hCD offC fin
    refine ⟨m', hn, fun h'' hs'' => fin D h'' tk (F'.change hs'' hCL hC₀) (fun p hp => ?_) o1⟩
    refine ⟨hs''.extBut _ _ ?_ (N' p hp).1, (N' p hp).2⟩
    rcases List.mem_cons.mp hp with rfl | hp
    · exact Ne.symm hCD
    · exact offC p hp
/-- a turn of a dict comprehension is over -/
def DEnd (h₀ : Heap) (L : Addr) (m : Str → Option Value) (s₁ : Shared) (I : Addr) (oI : Obj) (C : Addr) (oC : Obj) (D : Addr) (S : Led → Prop) (rest : Obj → Led → Prop) (s₂ : Shared) : Prop :=
  ∃ h' tk oD' news', s₂ = { s₁ with heap := h', toks := tk } ∧ Fr h₀ L h' m ∧ News h₀ L h' ((I, oI) :: (C, oC) :: (D, oD') :: news') ∧ Off3 I C D news' ∧ S news' ∧ rest oD' news'
/-- what is left of a dict comprehension -/
def DRest (prog : Program) (w : World) (A : Around) (h₀ : Heap) (L : Addr) (m : Str → Option Value) (env : Env) (kx vx : PySem.Expr) (x : Str) (scope : Scope) (cl : List (Str × Addr)) (s : Shared) (S : Led → Prop) (P : Nat → Value → Prop)
    (Fin : Obj → Led → Prop) : Nat → Nat → Obj → Led → Prop
  | 0, _, oD, news => Fin oD news
  | k + 1, i, oD, news => ∀ v I oI C oC D m₂ h tk (E' : Value → Shared → Prop), P i v → NsObj oC m₂ → m₂ x = some v → Fr h₀ L h m → News h₀ L h ((I, oI) :: (C, oC) :: (D, oD) :: news) → Off3 I C D news → ((@Ne Nat I C) ∧ (@Ne Nat I D) ∧ (@Ne Nat C D)) →
      wpAny (model prog w) A (eval kx (compEnvC scope cl C env)) (fun kv s₄ => wpAny (model prog w) A (eval vx (compEnvC scope cl C env)) (fun vv s₅ => wpAny (model prog w) A (dictSet D kv vv)
        (fun _ s₆ => DEnd h₀ L m { s with heap := h, toks := tk } I oI C oC D S (fun oD' news' => DRest prog w A h₀ L m env kx vx x scope cl s S P Fin k (i + 1) oD' news') s₆) E' s₅) E' s₄) E' { s with heap := h, toks := tk }
theorem block_D {kx vx iter : PySem.Expr} {x : Str} {px : Pos} {scope : Scope} {cl : List (Str × Addr)} {pos : Pos} {s₂ : Shared} {I : Addr} {fp : List Addr} {n : Nat} {P : Nat → Value → Prop} {St : Nat → Heap → Prop} {S : Led → Prop} {news : Led}
    {Fin : Obj → Led → Prop} {RR : Value → Addr → Result → Shared → Prop}
    (W : Walks prog w A I fp [I] n P St) (hIo : ∀ i h, St i h → ∃ o, h.get? I = some o)
    (hSt : ∀ i h h' o nw, St i h → h.get? I = some o → h'.get? I = some o → (∀ b o, h₀.get? b = some o → h'.get? b = some o) → News h₀ L h' nw → S nw → St i h')
    (hcell : ∀ y ∈ scope.names, y.2 ≠ .cell) (hkind : scope.kind = .function) (hx : scope.names.lookup x = some .local) (hst : St 0 s₂.heap) (hfp : ∀ b ∈ fp, b < s₂.heap.objs.size)
    (F : Fr h₀ L s₂.heap m) (N : News h₀ L s₂.heap news) (hIL : L ≠ I) (hI₀ : h₀.get? I = none) (off : ∀ p ∈ news, p.1 ≠ I) (hS : S news)
    (R : DRest prog w A h₀ L m env kx vx x scope cl s₂ S P Fin n 0 { cls := .type "dict", data := .dict #[] } news)
    (hRR : ∀ D C h tk m' oD news', Fr h₀ L h m → News h₀ L h ((D, oD) :: news') → Off1 D news' → h.Ns C m' → h₀.get? C = none → h₀.get? D = none → C ≠ L → D ≠ L → C ≠ D → (∀ p ∈ news', p.1 ≠ C) → s₂.heap.objs.size ≤ D → Fin oD news' → RR (.ref D) C (.ok .next) { s₂ with heap := h, toks := tk }) :
    wpAny (model prog w) A newDict (fun acc s₃ => wpAny (model prog w) A (newFunctionEnv scope env.globals cl [] env.qual none .none (some env)) (fun cenv s₄ =>
      codeAny (model prog w) A (.compStart (.DictComp kx vx [⟨.Name x px, iter, [], 0⟩] scope pos) 0 (.ref I) acc { cenv with scope := relabel scope env }) (RR acc cenv.locals) s₄) E s₃) E s₂ := by
  refine wpAny_newObj_type (wpAny_newFunctionEnv hcell (by intro y hy; simp at hy) (fun h₁ hns₁ hsb₁ => ?_) hkind)
  dsimp only at hns₁ hsb₁ ⊢
  generalize hH2 : s₂.heap.push { cls := .type "dict", dict := none, data := .dict #[] } = H2 at hns₁ hsb₁ ⊢
  have hC : H2.objs.size = s₂.heap.objs.size + 1 := by rw [← hH2, Heap.size_push]
  have hDC : s₂.heap.objs.size ≠ H2.objs.size := by rw [hC]; exact Nat.ne_of_lt (Nat.lt_succ_self _)
  have below : ∀ b, b < s₂.heap.objs.size → b ≠ H2.objs.size ∧ b ≠ s₂.heap.objs.size := fun b hb => ⟨by rw [hC]; exact Nat.ne_of_lt (Nat.lt_succ_of_lt hb), Nat.ne_of_lt hb⟩
  have hDf : s₂.heap.objs.size ∉ fp := fun hm => Nat.lt_irrefl _ (hfp _ hm)
  have hCf : H2.objs.size ∉ fp := fun hm => by have := hfp _ hm; rw [hC] at this; exact Nat.lt_irrefl _ (Nat.lt_of_succ_lt this)
  have hIf : I ∈ fp := W.sub I (List.mem_singleton.mpr rfl)
  have hIlt : I < s₂.heap.objs.size := hfp I hIf
  have old : ∀ b o, s₂.heap.get? b = some o → h₁.get? b = some o := fun b o e => hsb₁.extBut b o (below b (Heap.lt_size e)).1 (Heap.get?_push_of_some _ (hH2 ▸ Heap.get?_push_of_some _ e))
  have hacc : h₁.get? s₂.heap.objs.size = some { cls := .type "dict", data := .dict #[] } := hsb₁.extBut _ _ hDC (Heap.get?_push_of_some _ (hH2 ▸ Heap.get?_push_size _ rfl))
  have hst₁ : St 0 h₁ := W.frame _ _ _ hst fun b _ o e => old b o e
  have fresh : ∀ a, s₂.heap.objs.size ≤ a → s₂.heap.get? a = none := fun a ha => by
    cases e : s₂.heap.get? a with
    | none => rfl
    | some o' => exact absurd (Heap.lt_size e) (Nat.not_lt.mpr ha)
  have fresh₀ : ∀ a, s₂.heap.objs.size ≤ a → h₀.get? a = none := fun a ha => by
    cases e : h₀.get? a with
    | none => rfl
    | some o' => have := F.keep a o' e; rw [fresh a ha] at this; cases this
  have hD₀ : h₀.get? s₂.heap.objs.size = none := fresh₀ _ (Nat.le_refl _)
  have hC₀ : h₀.get? H2.objs.size = none := fresh₀ _ (by rw [hC]; exact Nat.le_succ _)
  have hLlt : L < s₂.heap.objs.size := F.ns.lt
  have hDL : s₂.heap.objs.size ≠ L := Ne.symm (below L hLlt).2
  have hCL : H2.objs.size ≠ L := Ne.symm (below L hLlt).1
  have hCI : I ≠ H2.objs.size := (below I hIlt).1
  have hDI : I ≠ s₂.heap.objs.size := (below I hIlt).2
  have off₀ : Off3 I H2.objs.size s₂.heap.objs.size news := Off3.of fun p hp => ⟨off p hp, (below _ (Heap.lt_size (N p hp).1)).1, (below _ (Heap.lt_size (N p hp).1)).2⟩
  have loop : ∀ s₃ : Shared, s₃ = { s₂ with heap := h₁, toks := s₂.toks + ([] : List (Str × Value)).length } →
      codeAny (model prog w) A (.compLoop (.DictComp kx vx [⟨.Name x px, iter, [], 0⟩] scope pos) 0 (.ref I) (.ref s₂.heap.objs.size) (compEnvC scope cl H2.objs.size env))
        (RR (.ref s₂.heap.objs.size) H2.objs.size) s₃ := by
    rintro s₃ rfl
    refine codeAny_compLoop_testsD
      (fun k s' => ∃ h' tk i oD m' news', s' = { s₂ with heap := h', toks := tk } ∧ i ≤ n ∧ k = n + 1 - i ∧ St i h' ∧ Fr h₀ L h' m ∧ h'.Ns H2.objs.size m' ∧ News h₀ L h' ((s₂.heap.objs.size, oD) :: news') ∧
        Off3 I H2.objs.size s₂.heap.objs.size news' ∧ S news' ∧ DRest prog w A h₀ L m env kx vx x scope cl s₂ S P Fin (n - i) i oD news') ?_ (n + 1)
      ⟨h₁, _, 0, _, _, news, rfl, Nat.zero_le _, rfl, hst₁, F.keeps old, hns₁, fun p hp => ?_, off₀, hS, R⟩
    · (intro k s' h99; (with_reducible refine Mine.hide fun G9 hG9 => ?_); rcases h99 with ⟨h', tk, i, oD, m', news', rfl, hi, rfl, hst', F', hn', N', off', hS', R'⟩ <;> (refine hG9 ?_; clear hG9 G9))
      by_cases hlt : i < n
      · obtain ⟨j, hj⟩ : ∃ j, n - i = j + 1 := ⟨n - i - 1, by omega⟩
        rw [hj] at R'
        refine W.item i _ _ _ hlt hst' fun v h₂ tk₂ hPv hst₂ hk₂ => ?_
        refine wpAny_assign_Name (wpAny_storeName_local (lookup_relabel_local hx) (hn'.at' fun o e => hk₂ _ o (by simpa using Ne.symm hCI) e) (fun h₃ hn₃ hs₃ => ?_) (by simp [compEnvC, relabel, hkind]))
        refine wpAny_tests_nil ?_
        simp only [if_true]
        have hst₃ : St (i + 1) h₃ := W.frame _ _ _ hst₂ fun b hb o e => hs₃.extBut b o (fun q => hCf (by have q' : b = H2.objs.size := q; rw [← q']; exact hb)) e
        obtain ⟨oI, heI⟩ := hIo _ _ hst₃
        obtain ⟨oC, heC, hoC⟩ := ns_obj hn₃
        have F₃ : Fr h₀ L h₃ m := (fr_but F' hk₂ hIL hI₀).change hs₃ hCL hC₀
        have off3 := off'.mem
        have N₂ : News h₀ L h₂ ((s₂.heap.objs.size, oD) :: news') := news_but N' hk₂ fun p hp => by
          rcases List.mem_cons.mp hp with rfl | hp
          · exact Ne.symm hDI
          · exact (off3 p hp).1
        have N₃ : News h₀ L h₃ ((I, oI) :: (H2.objs.size, oC) :: (s₂.heap.objs.size, oD) :: news') := fun p hp => by
          rcases List.mem_cons.mp hp with rfl | hp
          · exact ⟨heI, Ne.symm hIL, hI₀⟩
          · rcases List.mem_cons.mp hp with rfl | hp
            · exact ⟨heC, hCL, hC₀⟩
            · have z := N₂ p hp
              refine ⟨hs₃.extBut _ _ ?_ z.1, z.2⟩
              rcases List.mem_cons.mp hp with rfl | hp
              · exact hDC
              · exact (off3 p hp).2.1
        refine wpAny_mono (R' v I oI H2.objs.size oC s₂.heap.objs.size _ h₃ _ _ hPv hoC (by simp) F₃ N₃ off' ⟨hCI, hDI, Ne.symm hDC⟩) (fun kv s₄ q₄ => wpAny_mono q₄ (fun vv s₅ q₅ => wpAny_mono q₅ (fun _ s₆ h₆ => ?_) fun _ _ e => e) fun _ _ e => e) fun _ _ e => e
        ((with_reducible refine Mine.hide fun G9 hG9 => ?_); obtain ⟨h₄, tk₄, oD', news₄, rfl, F₄, N₄, off₄, hS₄, R₄⟩ := h₆; refine hG9 ?_; clear hG9 G9)
        have zI := (N₄ (I, oI) List.mem_cons_self).1
        have zC := (N₄ (H2.objs.size, oC) (List.mem_cons_of_mem _ List.mem_cons_self)).1
        have N₄' : News h₀ L h₄ news₄ := fun p hp => N₄ p (List.mem_cons_of_mem _ (List.mem_cons_of_mem _ (List.mem_cons_of_mem _ hp)))
        have hst₄ : St (i + 1) h₄ := hSt _ _ _ _ _ hst₃ heI zI F₄.keep N₄' hS₄
        refine ⟨n + 1 - (i + 1), by omega, h₄, tk₄, i + 1, oD', _, news₄, rfl, hlt, rfl, hst₄, F₄, hoC.ns zC, fun p hp => N₄ p (List.mem_cons_of_mem _ (List.mem_cons_of_mem _ hp)), off₄, hS₄, ?_⟩
        rw [show n - (i + 1) = j by omega]
        exact R₄
      · obtain rfl : i = n := Nat.le_antisymm hi (Nat.not_lt.mp hlt)
        rw [Nat.sub_self] at R'
        refine W.done _ _ _ hst' fun h₂ tk₂ hk₂ => ?_
        have off3 := off'.mem
        exact hRR _ _ h₂ tk₂ _ oD news' (fr_but F' hk₂ hIL hI₀) (news_but N' hk₂ fun p hp => by
          rcases List.mem_cons.mp hp with rfl | hp
          · exact Ne.symm hDI
          · exact (off3 p hp).1) off'.one (hn'.at' fun o e => hk₂ _ o (by simpa using Ne.symm hCI) e) hC₀ hD₀ hCL hDL (Ne.symm hDC) (fun p hp => (off3 p hp).2.1) (Nat.le_refl _) R'
    · rcases List.mem_cons.mp hp with rfl | hp
      · exact ⟨hacc, hDL, hD₀⟩
      · exact ⟨old _ _ (N p hp).1, (N p hp).2⟩
  exact codeAny_compStart_dict (loop _ rfl) (W.self 0 _ _ _ hst₁ (loop _ rfl))
end
end Mine
end
section
open PyProof.Rows.LCg PySem.Spec
namespace Mine
section
variable {prog : Program} {w : World} {A : Around} {E : Value → Shared → Prop} {s : Shared} {h₀ : Heap} {L : Addr} {m : Str → Option Value} {env : Env}
def FinD (h₀ : Heap) (L : Addr) (m : Str → Option Value) (s : Shared) (Q : Value → Shared → Prop) (oD : Obj) (news : Led) : Prop :=
  ∀ D h tk, Fr h₀ L h m → News h₀ L h ((D, oD) :: news) → Off1 D news → s.heap.objs.size ≤ D → Q (.ref D) { s with heap := h, toks := tk }
/-- a dict comprehension whose source is a dict of the ledger -/
def SrcD (prog : Program) (w : World) (A : Around) (h₀ : Heap) (L : Addr) (m : Str → Option Value) (env : Env) (kx vx : PySem.Expr) (x : Str) (scope : Scope) (cl : List (Str × Addr)) (Q : Value → Shared → Prop) (xv : Value) (s₁ : Shared) : Prop :=
  ∃ d o es ep news, xv = .ref d ∧ A.handled = none ∧ Fr h₀ L s₁.heap m ∧ News h₀ L s₁.heap news ∧ (d, o) ∈ news ∧ o.ExactDict ∧ o.data = .dict es ep ∧ (d == sysModules) = false ∧
    ∀ s₂ : Shared, (∃ h, s₂ = { s₁ with heap := h } ∧ s₁.heap.objs.size ≤ h.objs.size) → DRest prog w A h₀ L m env kx vx x scope cl s₂ (fun nw => (d, o) ∈ nw) (fun i v => ∃ e, es[i]? = some e ∧ v = e.key) (FinD h₀ L m s₂ Q) es.size 0 { cls := .type "dict", data := .dict #[] } news
theorem DictComp_src {kx vx iter : PySem.Expr} {x : Str} {px : Pos} {scope : Scope} {cl : List (Str × Addr)} {pos : Pos} {Q : Value → Shared → Prop} (F₀ : Fr h₀ L s.heap m)
    (hclos : closureFor scope env = pure cl) (hcell : ∀ y ∈ scope.names, y.2 ≠ .cell) (hkind : scope.kind = .function)
    (hnames : ∀ y ∈ scope.names, y.2 = .local → scope.names.lookup y.1 = some .local) (hx : scope.names.lookup x = some .local)
    (h : wpAny (model prog w) A (eval iter env) (fun xv s₁ => Stop (SrcD prog w A h₀ L m env kx vx x scope cl Q xv s₁)) E s)
    (hs : ∀ x, foldedSetIterable iter env x = pure x := by intro _; rfl) :
    wpAny (model prog w) A (eval (.DictComp kx vx [⟨.Name x px, iter, [], 0⟩] scope pos) env) Q E s := by
  rw [arm_eval_DictComp]
  refine wpAny_comprehension_free (use := none) rfl hs hclos hkind hnames (wpAny_mono h (fun xv s₁ h₁ => ?_) fun _ _ e => e)
  ((with_reducible refine Mine.hide fun G9 hG9 => ?_); obtain ⟨d, o, es, ep, news, rfl, hh, F, N, S, he, hda, lo, R⟩ := h₁.out; refine hG9 ?_; clear hG9 G9)
  have hod := (N _ S).1
  have X : EsAt s₁.heap d es ep := ⟨o, hod, he, hda⟩
  have hlt : d < s₁.heap.objs.size := Heap.lt_size hod
  have hne : d ≠ s₁.heap.objs.size := Nat.ne_of_lt hlt
  refine es_iter lo X ?_
  have W := es_walks (prog := prog) (w := w) (es := es) (ep := ep) hh s₁.heap.objs.size hne
  have up : ∀ (q : Obj) b o, s₁.heap.get? b = some o → (s₁.heap.push q).get? b = some o := fun q b o e => Heap.get?_push_of_some _ e
  refine block_D W (fun i h st => by obtain ⟨o, e, _⟩ := st.1; exact ⟨o, e⟩) (fun i h h' o' nw st e e' _ N' S' => ⟨?_, ⟨o, (N' _ S').1, he, hda⟩⟩) hcell hkind hx ⟨⟨_, Heap.get?_push_size _ rfl, rfl, rfl⟩, X.at fun o e => Heap.get?_push_of_some _ e⟩ (fun b hb => ?_)
    (F.keeps (up _)) (N.grown (up _)) (Nat.ne_of_lt F.ns.lt) (next_is_new F) (fun p hp => Nat.ne_of_lt (Heap.lt_size (N p hp).1)) S (R _ ⟨_, rfl, by rw [Heap.size_push]; exact Nat.le_succ _⟩) ?_
  · obtain ⟨o1, q, r⟩ := st.1
    rw [e] at q
    cases q
    exact ⟨_, e', r⟩
  · show b < (s₁.heap.push _).objs.size
    rw [Heap.size_push]
    rcases List.mem_cons.mp hb with rfl | hb
    · exact Nat.lt_succ_self _
    · rw [List.mem_singleton.mp hb]; exact Nat.lt_succ_of_lt hlt
  · intro D C h tk m' oD news' F' N' o1 hn hC₀ hD₀ hCL hDL hCD offC hle fin
    refine ⟨m', hn, fun h'' hs'' => fin D h'' tk (F'.change hs'' hCL hC₀) (fun p hp => ?_) o1 hle⟩
    refine ⟨hs''.extBut _ _ ?_ (N' p hp).1, (N' p hp).2⟩
    rcases List.mem_cons.mp hp with rfl | hp
    · exact Ne.symm hCD
    · exact offC p hp
end
end Mine
end
section
open PyProof.Rows.LCg PyProof.V PySem.Spec
namespace Mine
section
variable {prog : Program} {w : World} {A : Around} {E : Value → Shared → Prop} {s : Shared} {h₀ : Heap} {L : Addr} {m : Str → Option Value}
theorem upd3 {I C D : Addr} {oI oC oD : Obj} {news : Led} (off : Off3 I C D news) (ne : (@Ne Nat I C) ∧ (@Ne Nat I D) ∧ (@Ne Nat C D)) : UpdF D oD ((I, oI) :: (C, oC) :: (D, oD) :: news) (fun o' => (I, oI) :: (C, oC) :: (D, o') :: news) :=
  .tail ne.2.1 (.tail ne.2.2 (.head fun p hp => (off.mem p hp).2.2))
theorem dset_int {I C D : Addr} {oI oC oD : Obj} {news : Led} {kvs : List (Int × Value)} {k : Int} {key v : Value} {Q : Unit → Shared → Prop} (F : Fr h₀ L s.heap m) (N : News h₀ L s.heap ((I, oI) :: (C, oC) :: (D, oD) :: news)) (off : Off3 I C D news) (ne : (@Ne Nat I C) ∧ (@Ne Nat I D) ∧ (@Ne Nat C D))
    (hd : oD.IsDictOf (intKind prog w) kvs) (hkey : (intKind prog w).is k key = true) (hsz : kvs.length ≤ sizeLine)
    (h : ∀ h' o', Fr h₀ L h' m → News h₀ L h' ((I, oI) :: (C, oC) :: (D, o') :: news) → o'.IsDictOf (intKind prog w) (stored kvs k v) → Q () { s with heap := h', toks := s.toks + 1 }) :
    wpAny (model prog w) A (dictSet D key v) Q E s := by
  ((with_reducible refine Mine.hide fun G9 hG9 => ?_); obtain ⟨pre, post, e, hg, a, b⟩ := (upd3 (oI := oI) (oC := oC) (oD := oD) off ne).split; refine hG9 ?_; clear hG9 G9)
  have hm := N (D, oD) (by rw [e]; exact List.mem_append_right _ (.head _))
  refine wpAny_dictSet_pairs (hsz := hsz) hkey (Heap.dictOf_iff.mpr ⟨oD, hm.1, hd⟩) fun h' hmm hs => ?_
  obtain ⟨o', ho', hd'⟩ := Heap.dictOf_iff.mp hmm
  rw [e] at N
  exact h h' o' (F.change hs hm.2.1 hm.2.2) (by have := hg o'; rw [this]; exact N.setIn a b hs ho') hd'
/-- a dict whose keys are tuples -/
def TabObj (prog : Program) (w : World) (news : Led) (o : Obj) (xs : List (List Int × Addr × Value)) : Prop :=
  o.ExactDict ∧ ∃ es ep, o.data = .dict es ep ∧ es.toList = xs.map (entryOfKey (tupleKind (intKind prog w))) ∧ (xs.map (·.1)).Nodup ∧ ∀ x ∈ xs, ∃ ok, (x.2.1, ok) ∈ news ∧ TupKeyObj (intKind prog w) x.1 ok
theorem dset_tup {I C D a : Addr} {oI oC oD ok : Obj} {news kn : Led} {xs : List (List Int × Addr × Value)} {ks : List Int} {v : Value} {Q : Unit → Shared → Prop} (F : Fr h₀ L s.heap m) (N : News h₀ L s.heap ((I, oI) :: (C, oC) :: (D, oD) :: news)) (off : Off3 I C D news) (ne : (@Ne Nat I C) ∧ (@Ne Nat I D) ∧ (@Ne Nat C D))
    (hs : ∀ p ∈ kn, p ∈ news) (hd : TabObj prog w kn oD xs) (hka : (a, ok) ∈ kn) (tk : TupKeyObj (intKind prog w) ks ok) (hsz : xs.length ≤ sizeLine) (hu : A.units < cLine)
    (h : ∀ h' o' tk', Fr h₀ L h' m → News h₀ L h' ((I, oI) :: (C, oC) :: (D, o') :: news) → TabObj prog w kn o' (storedH xs ks a v) → Q () { s with heap := h', toks := tk' }) :
    wpAny (model prog w) A (dictSet D (.ref a) v) Q E s := by
  ((with_reducible refine Mine.hide fun G9 hG9 => ?_); obtain ⟨pre, post, e, hg, a1, b1⟩ := (upd3 (oI := oI) (oC := oC) (oD := oD) off ne).split; refine hG9 ?_; clear hG9 G9)
  have hm := N (D, oD) (by rw [e]; exact List.mem_append_right _ (.head _))
  have Nn : ∀ p ∈ kn, s.heap.get? p.1 = some p.2 := fun p hp => (N p (.tail _ (.tail _ (.tail _ (hs p hp))))).1
  ((with_reducible refine Mine.hide fun G9 hG9 => ?_); obtain ⟨hc, es, ep, hda, he, hn, hk⟩ := hd; refine hG9 ?_; clear hG9 G9)
  have hD : s.heap.DictOfH (tupleKind (intKind prog w)) D xs := ⟨oD, es, ep, hm.1, hc, hda, he, fun x hx => let ⟨_, hmk, t⟩ := hk x hx; t.key (Nn _ hmk), hn⟩
  refine wpAny_dictSet_heap (hsz := hsz) (knd := tupleKind (intKind prog w)) hu (tk.key (Nn _ hka)) hD fun h' hmm hsb => ?_
  ((with_reducible refine Mine.hide fun G9 hG9 => ?_); obtain ⟨o', es', ep', ho', hc', hd', he', _, hn'⟩ := hmm; refine hG9 ?_; clear hG9 G9)
  rw [e] at N
  refine h h' o' _ (F.change hsb hm.2.1 hm.2.2) (by have := hg o'; rw [this]; exact N.setIn a1 b1 hsb ho') ⟨hc', es', ep', hd', he', hn', fun x hx => ?_⟩
  rcases mem_storedH hx with ⟨y, hy, e1, e2⟩ | ⟨e1, e2⟩
  · obtain ⟨oky, hmk, t⟩ := hk y hy
    exact ⟨oky, by rw [e2]; exact hmk, by rw [e1]; exact t⟩
  · exact ⟨ok, by rw [e2]; exact hka, by rw [e1]; exact tk⟩
theorem dict_nil : Obj.IsDictOf (intKind prog w) { cls := .type "dict", data := .dict #[] } [] := ⟨#[], 0, ⟨rfl, rfl, rfl⟩, rfl, (fun e h => by simp at h), .nil, .nil⟩
theorem tab_nil {news : Led} : TabObj prog w news { cls := .type "dict", data := .dict #[] } [] := ⟨⟨rfl, rfl, rfl⟩, #[], 0, rfl, rfl, .nil, fun x hx => nomatch hx⟩
theorem tab_done {news l : Led} {D k0 k1 : Addr} {o : Obj} {g0 g1 : Int} {t0 t1 : Tok} (h : TabObj prog w news o [([5, 0], k0, .int g0 t0), ([5, -4], k1, .int g1 t1)]) (hs : ∀ p ∈ news, p ∈ l) (hm : (D, o) ∈ l) (lo : (D == sysModules) = false) :
    TupTab (intKind prog w) PyData.int l D [(encTuple PyData.int [5, 0], PyData.int g0), (encTuple PyData.int [5, -4], PyData.int g1)] := by
  obtain ⟨hc, es, ep, hda, he, hn, hk⟩ := h
  exact ⟨lo, o, es, ep, _, hm, hc, hda, he, hn, fun x hx => let ⟨ok, h1, h2⟩ := hk x hx; ⟨ok, hs _ h1, h2⟩, .cons (fun _ => .int _ _) (.cons (fun _ => .int _ _) .nil)⟩
end
theorem news_lt {h₀ h : Heap} {L : Addr} {news : Led} (N : News h₀ L h news) : ∀ p ∈ news, p.1 < h.objs.size := fun p hp => Heap.lt_size (N p hp).1
theorem sys_lt {h₀ h : Heap} {L : Addr} {m : Str → Option Value} (hb : sysModules < h₀.objs.size) (F : Fr h₀ L h m) : sysModules < h.objs.size := Nat.lt_trans hb (Nat.lt_of_le_of_lt F.above F.ns.lt)
theorem allLt_of {d : Addr} : ∀ {l : Led}, (∀ p ∈ l, p.1 < d) → AllLt d l
  | [], _ => trivial
  | _ :: _, h => ⟨h _ (.head _), allLt_of fun p hp => h p (.tail _ hp)⟩
end Mine
end
local macro_rules | `(tactic| walk_at "m:cellC_enter") => `(tactic| (refine' code_defC ?k1 ?k2 ?k3 ?k4 ?k5 ?kA ?kF ?kK ?k6 ?k7 ?k8 ?k9 ?kB ?kD ?_ ?c2 ?c3 ?c4; (case kA => exact rfl); (case kF => exact rfl); (case kK => assumption); (case k1 => k_asm); (case k2 => k_asm); (case k3 => k_asm); (case k4 => k_asm); (case k5 => k_asm); (case k6 => k_is); (case k7 => k_is); (case k8 => ktr_room); (case k9 => exact BindsTo.of_eq rfl); (case kB => exact rfl); (case kD => decide +kernel); (case c2 => exact rfl); (case c3 => exact rfl); (case c4 => exact rfl); k_whole; intro g' L' h' tk' cells' FG' F' N' Y' B' X' T' l1; (try k_lt l1); k_cells Y'; (try simp only [List.cons_append, List.nil_append] at N'); (try dsimp only); (try k_lift B'); (try k_fold)))
local macro_rules | `(tactic| walk_at "eval ListComp") => `(tactic| (k_here; k_dflt (refine Mine.ListComp_tup (F₀ := by k_asm) (by rfl) (by decide) (by rfl) (by decide) (by rfl) ?_)))
local macro_rules | `(tactic| walk_at "eval DictComp") => `(tactic| (k_here; k_dflt (refine Mine.DictComp_src (F₀ := by k_asm) (by rfl) (by decide) (by rfl) (by decide) (by rfl) ?_)))
section
open PySem.Spec
namespace Mine
def RowD.shift (d : Int) : RowD → RowD
  | .tryR g => .tryR (g + d) | .retry g => .retry (g + d) | .trust g => .trust (g + d)
  | .sot x y z u => .sot (x + d) (y + d) (z + d) (u + d)
  | .sos x y => .sos (x + d) (y + d)
  | .soc x y z => .soc (x + d) (y + d) (z + d)
  | r => r
/-- a new list of these rows -/
def NewRows (w : World) (news : Led) (rs : List RowD) (x : Value) (l : Led) : Prop := ∃ a vs n, x = .ref a ∧ (a, listOf vs.toArray n) ∈ l ∧ RowsAt w l vs rs ∧ (∀ p ∈ news, p ∈ l)
theorem RowsAt.mono {w : World} {l l' : Led} {vs : List Value} {rs : List RowD} (h : RowsAt w l vs rs) (hs : ∀ p ∈ l, p ∈ l') : RowsAt w l' vs rs :=
  ⟨h.1, fun i r hr => let ⟨v, hv, hw⟩ := h.2 i r hr; ⟨v, hv, hw.mono hs⟩⟩
theorem RowsAt.push {w : World} {l : Led} {vs : List Value} {rs : List RowD} {v : Value} {r : RowD} (h : RowsAt w l vs rs) (hr : RowAt w l v r) : RowsAt w l (vs ++ [v]) (rs ++ [r]) := by
  refine ⟨by simp [h.1], fun i q hq => ?_⟩
  by_cases hi : i < rs.length
  · rw [List.getElem?_append_left hi] at hq
    obtain ⟨u, hu, hw⟩ := h.2 i q hq
    exact ⟨u, by rw [List.getElem?_append_left (by rw [h.1]; exact hi)]; exact hu, hw⟩
  · rw [List.getElem?_append_right (by omega)] at hq
    have e : i - rs.length = 0 := by
      have := (List.getElem?_eq_some_iff.mp hq).1
      simp at this
      omega
    rw [e] at hq
    cases hq
    refine ⟨v, ?_, hr⟩
    rw [List.getElem?_append_right (by rw [h.1]; omega), h.1, e]
    rfl
theorem shift_take {rs : List RowD} {i : Nat} {r : RowD} {d : Int} (h : rs[i]? = some r) : (rs.take (i + 1)).map (RowD.shift d) = (rs.take i).map (RowD.shift d) ++ [r.shift d] := by
  rw [List.take_add_one, h, List.map_append]
  rfl
/-- between the turns of _law_added's loop -/
def AJ (w : World) (news : Led) (rs : List RowD) (d : Int) (lm c1 c2 : Addr) (o2 : Obj) (i : Nat) (m : Str → Option Value) (nx : Led) : Prop :=
  ∃ us k oc vc ls, nx = (lm, listOf us.toArray k) :: (c1, oc) :: (c2, o2) :: ls ∧ (∀ p ∈ news, p ∈ ls) ∧ (∀ p ∈ ls, p.1 ≠ lm ∧ p.1 ≠ c1 ∧ p.1 ≠ c2) ∧ oc.data = Data.cell vc ∧
    RowsAt w ls us ((rs.take i).map (RowD.shift d)) ∧ Vars m [(Str.ofString "made", .ref lm)]
theorem added_end {w : World} {news : Led} {rs : List RowD} {d : Int} {lm c1 c2 lr : Addr} {olr o2 oc : Obj} {i k : Nat} {vc : Option Value} {us : List Value} {v : Value} {r : RowD} {ls ls2 own l9 : Led} {s1 : Shared} {h₀ h9 : Heap} {L : Addr} {tk9 : Nat} {m9 : Str → Option Value}
    (hlr : (lr, olr) ∈ news) (hri : rs[i]? = some r) (hus : RowsAt w ls us ((rs.take i).map (RowD.shift d))) (hns : ∀ p ∈ news, p ∈ ls) (hls : ∀ p ∈ ls, p ∈ ls2) (F9 : Fr h₀ L h9 m9) (V9 : Vars m9 [(Str.ofString "made", .ref lm)]) (N9 : News h₀ L h9 l9)
    (hm : (lm, listOf (us ++ [v]).toArray k) ∈ l9) (hc1 : (c1, oc) ∈ l9) (hc2 : (c2, o2) ∈ l9) (hoc : oc.data = Data.cell vc) (h2 : ∀ p ∈ ls2, p ∈ l9) (ho : ∀ p ∈ own, p ∈ l9)
    (hne : ∀ p ∈ ls2, p.1 ≠ lm ∧ p.1 ≠ c1 ∧ p.1 ≠ c2) (hoff : OwnOff own (((lm, listOf (us ++ [v]).toArray k) :: (c1, oc) :: (c2, o2) :: ls2).map (·.1))) (hrow : RowAt w ls2 v (r.shift d)) :
    InvN h₀ L (fun m' nx => (lr, olr) ∈ nx ∧ AJ w news rs d lm c1 c2 o2 (i + 1) m' nx) own s1 .next { s1 with heap := h9, toks := tk9 } := by
  refine ⟨rfl, h9, tk9, m9, l9, (lm, listOf (us ++ [v]).toArray k) :: (c1, oc) :: (c2, o2) :: ls2, rfl, F9, N9, ?_, ho, hoff, .tail _ (.tail _ (.tail _ (hls _ (hns _ hlr)))), us ++ [v], k, oc, vc, ls2, rfl, fun p hp => hls p (hns p hp), hne, hoc, ?_, V9⟩
  · intro p hp
    rcases List.mem_cons.mp hp with rfl | hp
    · exact hm
    rcases List.mem_cons.mp hp with rfl | hp
    · exact hc1
    rcases List.mem_cons.mp hp with rfl | hp
    · exact hc2
    exact h2 p hp
  · rw [shift_take hri]
    exact (hus.mono hls).push hrow
theorem added_new {w : World} {news : Led} {rs : List RowD} {d : Int} {lm c1 c2 lr : Addr} {olr o2 oc : Obj} {i k : Nat} {vc : Option Value} {us : List Value} {v : Value} {r : RowD} {ls new own l9 : Led} {s1 : Shared} {h₀ h9 : Heap} {L : Addr} {tk9 : Nat} {m9 : Str → Option Value} {oc0 ol0 : Obj}
    (hlr : (lr, olr) ∈ news) (hri : rs[i]? = some r) (hus : RowsAt w ls us ((rs.take i).map (RowD.shift d))) (hns : ∀ p ∈ news, p ∈ ls) (F9 : Fr h₀ L h9 m9) (V9 : Vars m9 [(Str.ofString "made", .ref lm)]) (N9 : News h₀ L h9 l9)
    (hm : (lm, listOf (us ++ [v]).toArray k) ∈ l9) (hc1 : (c1, oc) ∈ l9) (hc2 : (c2, o2) ∈ l9) (hoc : oc.data = Data.cell vc) (h1 : ∀ p ∈ new, p ∈ l9) (h2 : ∀ p ∈ ls ++ own, p ∈ l9)
    (hne : ∀ p ∈ ls, p.1 ≠ lm ∧ p.1 ≠ c1 ∧ p.1 ≠ c2) (hnew : ∀ q ∈ new, lm < q.1 ∧ c1 < q.1 ∧ c2 < q.1 ∧ AllLt q.1 (ls ++ own)) (hoff : OwnOff own (((lm, ol0) :: (c1, oc0) :: (c2, o2) :: ls).map (·.1))) (hrow : RowAt w (new ++ ls) v (r.shift d)) :
    InvN h₀ L (fun m' nx => (lr, olr) ∈ nx ∧ AJ w news rs d lm c1 c2 o2 (i + 1) m' nx) own s1 .next { s1 with heap := h9, toks := tk9 } := by
  refine added_end hlr hri hus hns (fun p hp => List.mem_append_right new hp) F9 V9 N9 hm hc1 hc2 hoc (fun p hp => (List.mem_append.mp hp).elim (h1 p) fun hp => h2 p (List.mem_append_left _ hp)) (fun p hp => h2 p (List.mem_append_right _ hp)) (fun p hp => (List.mem_append.mp hp).elim (fun hp => ?_) (hne p)) ?_ hrow
  · obtain ⟨a, b, c, _⟩ := hnew p hp
    exact ⟨Nat.ne_of_gt a, Nat.ne_of_gt b, Nat.ne_of_gt c⟩
  · intro p hp b hb
    simp only [List.map_cons, List.map_append, List.mem_cons, List.mem_append] at hb
    rcases hb with rfl | rfl | rfl | hb | hb
    · exact hoff p hp _ (by simp)
    · exact hoff p hp _ (by simp)
    · exact hoff p hp _ (by simp)
    · obtain ⟨q, hq, rfl⟩ := List.mem_map.mp hb
      exact Nat.ne_of_lt (allLt_lt (hnew q hq).2.2.2 p (List.mem_append_right _ hp))
    · exact hoff p hp b (by simp only [List.map_cons, List.mem_cons]; exact .inr (.inr (.inr hb)))
theorem added_new1 {w : World} {news : Led} {rs : List RowD} {d : Int} {lm c1 c2 lr D : Addr} {olr o2 oc o : Obj} {i k : Nat} {vc : Option Value} {us : List Value} {r : RowD} {ls own l8 : Led} {s1 : Shared} {h₀ h9 : Heap} {L : Addr} {tk9 : Nat} {m9 : Str → Option Value} {oc0 ol0 : Obj}
    (hlr : (lr, olr) ∈ news) (hri : rs[i]? = some r) (hus : RowsAt w ls us ((rs.take i).map (RowD.shift d))) (hns : ∀ p ∈ news, p ∈ ls) (F9 : Fr h₀ L h9 m9) (V9 : Vars m9 [(Str.ofString "made", .ref lm)]) (N9 : News h₀ L h9 ((D, o) :: l8))
    (hm : (lm, listOf (us ++ [Value.ref D]).toArray k) ∈ (D, o) :: l8) (hc1 : (c1, oc) ∈ (D, o) :: l8) (hc2 : (c2, o2) ∈ (D, o) :: l8) (hoc : oc.data = Data.cell vc) (h2 : ∀ p ∈ ls ++ own, p ∈ (D, o) :: l8)
    (hne : ∀ p ∈ ls, p.1 ≠ lm ∧ p.1 ≠ c1 ∧ p.1 ≠ c2) (hD : lm < D ∧ c1 < D ∧ c2 < D ∧ AllLt D (ls ++ own)) (hoff : OwnOff own (((lm, ol0) :: (c1, oc0) :: (c2, o2) :: ls).map (·.1))) (hrow : RowAt w ((D, o) :: ls) (.ref D) (r.shift d)) :
    InvN h₀ L (fun m' nx => (lr, olr) ∈ nx ∧ AJ w news rs d lm c1 c2 o2 (i + 1) m' nx) own s1 .next { s1 with heap := h9, toks := tk9 } :=
  added_new (new := [(D, o)]) hlr hri hus hns F9 V9 N9 hm hc1 hc2 hoc (fun p hp => by rw [List.mem_singleton.mp hp]; exact .head _) h2 hne (fun q hq => by rw [List.mem_singleton.mp hq]; exact hD) hoff hrow
theorem added_new2 {w : World} {news : Led} {rs : List RowD} {d : Int} {lm c1 c2 lr D : Addr} {olr o2 oc o : Obj} {i k : Nat} {vc : Option Value} {us : List Value} {r : RowD} {ls own l8 : Led} {s1 : Shared} {h₀ h9 : Heap} {L : Addr} {tk9 : Nat} {m9 : Str → Option Value} {oc0 ol0 : Obj}
    (hlr : (lr, olr) ∈ news) (hri : rs[i]? = some r) (hus : RowsAt w ls us ((rs.take i).map (RowD.shift d))) (hns : ∀ p ∈ news, p ∈ ls) (F9 : Fr h₀ L h9 m9) (V9 : Vars m9 [(Str.ofString "made", .ref lm)]) (N9 : News h₀ L h9 l8)
    (hmem : (D, o) ∈ l8) (hm : (lm, listOf (us ++ [Value.ref D]).toArray k) ∈ l8) (hc1 : (c1, oc) ∈ l8) (hc2 : (c2, o2) ∈ l8) (hoc : oc.data = Data.cell vc) (h2 : ∀ p ∈ ls ++ own, p ∈ l8)
    (hne : ∀ p ∈ ls, p.1 ≠ lm ∧ p.1 ≠ c1 ∧ p.1 ≠ c2) (hD : lm < D ∧ c1 < D ∧ c2 < D ∧ AllLt D (ls ++ own)) (hoff : OwnOff own (((lm, ol0) :: (c1, oc0) :: (c2, o2) :: ls).map (·.1))) (hrow : RowAt w ((D, o) :: ls) (.ref D) (r.shift d)) :
    InvN h₀ L (fun m' nx => (lr, olr) ∈ nx ∧ AJ w news rs d lm c1 c2 o2 (i + 1) m' nx) own s1 .next { s1 with heap := h9, toks := tk9 } :=
  added_new (new := [(D, o)]) hlr hri hus hns F9 V9 N9 hm hc1 hc2 hoc (fun p hp => by rw [List.mem_singleton.mp hp]; exact hmem) h2 hne (fun q hq => by rw [List.mem_singleton.mp hq]; exact hD) hoff hrow
theorem added_new3 {w : World} {news : Led} {rs : List RowD} {d : Int} {lm c1 c2 lr D D2 : Addr} {olr o2 oc o od : Obj} {i k : Nat} {vc : Option Value} {us : List Value} {r : RowD} {ls own l8 : Led} {s1 : Shared} {h₀ h9 : Heap} {L : Addr} {tk9 : Nat} {m9 : Str → Option Value} {oc0 ol0 : Obj}
    (hlr : (lr, olr) ∈ news) (hri : rs[i]? = some r) (hus : RowsAt w ls us ((rs.take i).map (RowD.shift d))) (hns : ∀ p ∈ news, p ∈ ls) (F9 : Fr h₀ L h9 m9) (V9 : Vars m9 [(Str.ofString "made", .ref lm)]) (N9 : News h₀ L h9 l8)
    (hmem : (D, o) ∈ l8) (hmem2 : (D2, od) ∈ l8) (hm : (lm, listOf (us ++ [Value.ref D]).toArray k) ∈ l8) (hc1 : (c1, oc) ∈ l8) (hc2 : (c2, o2) ∈ l8) (hoc : oc.data = Data.cell vc) (h2 : ∀ p ∈ ls ++ own, p ∈ l8)
    (hne : ∀ p ∈ ls, p.1 ≠ lm ∧ p.1 ≠ c1 ∧ p.1 ≠ c2) (hD : lm < D ∧ c1 < D ∧ c2 < D ∧ AllLt D (ls ++ own)) (hD2 : lm < D2 ∧ c1 < D2 ∧ c2 < D2 ∧ AllLt D2 (ls ++ own)) (hoff : OwnOff own (((lm, ol0) :: (c1, oc0) :: (c2, o2) :: ls).map (·.1))) (hrow : RowAt w ((D, o) :: (D2, od) :: ls) (.ref D) (r.shift d)) :
    InvN h₀ L (fun m' nx => (lr, olr) ∈ nx ∧ AJ w news rs d lm c1 c2 o2 (i + 1) m' nx) own s1 .next { s1 with heap := h9, toks := tk9 } :=
  added_new (new := [(D, o), (D2, od)]) hlr hri hus hns F9 V9 N9 hm hc1 hc2 hoc (fun p hp => by
    rcases List.mem_cons.mp hp with rfl | hp
    · exact hmem
    · rw [List.mem_singleton.mp hp]; exact hmem2) h2 hne (fun q hq => by
    rcases List.mem_cons.mp hq with rfl | hq
    · exact hD
    · rw [List.mem_singleton.mp hq]; exact hD2) hoff hrow
theorem off1_mem {D : Addr} : ∀ {l : Led}, LCg.Off1 D l → ∀ p ∈ l, p.1 ≠ D
  | [], _, _, h => nomatch h
  | _ :: _, x, p, h => by
    rcases List.mem_cons.mp h with rfl | h
    · exact x.1
    · exact off1_mem x.2 p h
/-- the rows, by what _law_added does with them -/
inductive ACls (w : World) (ls : Led) (d : Int) : Value → RowD → Prop
  | plain {a nm t rest n r} : (List.any [Str.ofString "try", Str.ofString "retry", Str.ofString "trust"] fun x => x == nm) = false → (nm == Str.ofString "switch_on_term") = false →
      (List.any [Str.ofString "switch_on_constant", Str.ofString "switch_on_structure"] fun x => x == nm) = false → (a, tupO (.str nm t :: rest) n) ∈ ls → RowAt w ls (.ref a) (r.shift d) → ACls w ls d (.ref a) r
  | tryR {a t g u v n} : (a, tupO [S "try" t, .int g u, .int 3 v] n) ∈ ls → ACls w ls d (.ref a) (.tryR g)
  | rt {a nm t g u n r} : (List.any [Str.ofString "try", Str.ofString "retry", Str.ofString "trust"] fun x => x == nm) = true → (a, tupO [.str nm t, .int g u] n) ∈ ls →
      (∀ l b t' u' n', (b, tupO [.str nm t', .int (g + d) u'] n') ∈ l → RowAt w l (.ref b) (r.shift d)) → ACls w ls d (.ref a) r
  | sot {a t g0 g1 g2 g3 u0 u1 u2 u3 n} : (a, tupO [S "switch_on_term" t, .int g0 u0, .int g1 u1, .int g2 u2, .int g3 u3] n) ∈ ls → ACls w ls d (.ref a) (.sot g0 g1 g2 g3)
  | sos {a d' t u n o g0 g1 u0} : (a, tupO [S "switch_on_structure" t, .ref d', .int g1 u] n) ∈ ls → (d', o) ∈ ls → o.IsDictOf (intKind PG w) [(30, .int g0 u0)] → (d' == sysModules) = false → ACls w ls d (.ref a) (.sos g0 g1)
  | soc {a d' t u n g0 g1 g2} : (a, tupO [S "switch_on_constant" t, .ref d', .int g2 u] n) ∈ ls →
      TupTab (intKind PG w) PyData.int ls d' [(encTuple PyData.int [5, 0], PyData.int g0), (encTuple PyData.int [5, -4], PyData.int g1)] → ACls w ls d (.ref a) (.soc g0 g1 g2)
theorem acls {w : World} {ls : Led} {d : Int} {v : Value} {r : RowD} (h : RowAt w ls v r) : ACls w ls d v r := by
  cases h with
  | tryR h => exact .tryR h
  | retry h => exact .rt rfl h fun _ _ _ _ _ h => .retry h
  | trust h => exact .rt rfl h fun _ _ _ _ _ h => .trust h
  | sot h => exact .sot h
  | sos h k e lo => exact .sos h k e lo
  | soc h T => exact .soc h T
  | cut h => exact .plain rfl rfl rfl h (.cut h)
  | call h => exact .plain rfl rfl rfl h (.call h)
  | glist h k => exact .plain rfl rfl rfl h (.glist h k)
  | proceed h => exact .plain rfl rfl rfl h (.proceed h)
  | execute h => exact .plain rfl rfl rfl h (.execute h)
  | fail h => exact .plain rfl rfl rfl h (.fail h)
  | halt h => exact .plain rfl rfl rfl h (.halt h)
  | mcall h => exact .plain rfl rfl rfl h (.mcall h)
  | cfail h => exact .plain rfl rfl rfl h (.cfail h)
  | dyn h => exact .plain rfl rfl rfl h (.dyn h)
  | push h => exact .plain rfl rfl rfl h (.push h)
theorem added_spec (w : World) (lr : Addr) (vs : List Value) (n : Nat) (d : Int) (td : Tok) (rs : List RowD) (news : Led) (hl : (lr, listOf vs.toArray n) ∈ news) (hr : RowsAt w news vs rs) (hlen : rs.length ≤ 30) :
    Spec w 4 115 [.ref lr, .int d td] news (NewRows w news (rs.map (RowD.shift d))) := by
  unfold Spec
  intro mean mg mb dp un gd cn cs a ccd cl outer A₀ base h₀ L m s Q E B F X N T hk hdp hun hret
  (have _ : (PySem.Challenge.rw_sa0141_01 = PySem.Challenge.rw_sa0141_01) ∧ (HD.heap_39 = HD.heap_39) := by k_fill; exact ⟨rfl, rfl⟩)
  refine wpAny_call ?_
  k_dflt (walk_at "m:cellC_enter")
  rename Fr _ _ _ _ => F0
  rename News _ _ _ _ => N0
  rename_i g' L' h' tk' FG B' X' T' l1 o1 o2 d1 d2
  have F1 : Fr g' L' h' (fun y => if y = Str.ofString "rows" then some (.ref lr) else none) := by with_unfolding_all exact F0
  have c2 : o2.data = Data.cell (some (.int d td)) := by with_unfolding_all exact d2
  have c1 : o1.data = Data.cell none := by with_unfolding_all exact d1
  (first | clear F0 d1 d2 | ((try clear d2); (try clear d1); (try clear F0)))
  (try k_fold)
  k_steps
  rename Fr _ _ _ _ => F2
  rename News _ _ _ _ => N2
  rename _ ∧ _ ∧ AllLt _ news => hltm
  rename_i lm hx hy
  refine cell_loop (l := lr) (vs := vs) (nn := n) (AJ w news rs d lm (L' + 1 + 1) (L' + 1) o2) rfl F2 N2 (.tail _ (.tail _ (.tail _ hl))) ⟨[], 0, o1, none, news, rfl, fun p hp => hp, ?_, c1, ⟨rfl, fun j r h => by simp at h⟩, rfl, trivial⟩ ?_ ?_
  · intro p hp
    have h1 := l1 p hp
    have h2 := allLt_lt hltm.2.2 p hp
    exact ⟨Nat.ne_of_lt h2, Nat.ne_of_lt (Nat.lt_succ_of_lt (Nat.lt_succ_of_lt h1)), Nat.ne_of_lt (Nat.lt_succ_of_lt h1)⟩
  · (intro i v m1 nx s1 own hvi hoff hlr h99 F3 N3; (with_reducible refine Mine.hide fun G9 hG9 => ?_); rcases h99 with ⟨us, k, oc, vc, ls, rfl, hns, hne, hoc, hus, V⟩ <;> (refine hG9 ?_; clear hG9 G9))
    have F4 := Fr.vars' V F3
    (first | clear F3 F2 N2 | ((try clear N2); (try clear F2); (try clear F3)))
    have hil := (List.getElem?_eq_some_iff.mp hvi).1
    rw [hr.1] at hil
    have hri : rs[i]? = some rs[i] := List.getElem?_eq_getElem hil
    obtain ⟨v', hv', hrow⟩ := hr.2 i _ hri
    rw [hvi] at hv'
    cases hv'
    have hrow2 := hrow.mono hns
    have hm1 : lm ≠ L' + 1 + 1 := Nat.ne_of_gt hltm.1
    have hm2 : lm ≠ L' + 1 := Nat.ne_of_gt hltm.2.1
    have hm3 : L' + 1 + 1 ≠ lm := Nat.ne_of_lt hltm.1
    have hm4 : L' + 1 ≠ lm := Nat.ne_of_lt hltm.2.1
    have husl : us.length ≤ 100 := by
      rw [hus.1, List.length_map, List.length_take]
      omega
    have e1 : ∀ p ∈ ls ++ own, p.1 ≠ lm := fun p hp => (List.mem_append.mp hp).elim (fun hp => (hne p hp).1) fun hp => hoff p hp lm (by simp)
    have e2 : ∀ p ∈ ls ++ own, p.1 ≠ L' + 1 + 1 := fun p hp => (List.mem_append.mp hp).elim (fun hp => (hne p hp).2.1) fun hp => hoff p hp (L' + 1 + 1) (by simp)
    have e3 : ∀ p ∈ ls ++ own, p.1 ≠ L' + 1 := fun p hp => (List.mem_append.mp hp).elim (fun hp => (hne p hp).2.2) fun hp => hoff p hp (L' + 1) (by simp)
    have N4 : News _ _ s1.heap ((lm, listOf us.toArray k) :: (L' + 1 + 1, oc) :: (L' + 1, o2) :: (ls ++ own)) := N3
    (first | clear N3 hrow | ((try clear hrow); (try clear N3)))
    generalize hrr : rs[i] = r at hri hrow2
    (first | clear hrr | ((try clear hrr)))
    have hcls := acls (d := d) hrow2
    (first | clear hrow2 | ((try clear hrow2)))
    cases hcls
    case plain hrow5 =>
      (try k_fold)
      k_steps
      rename Fr _ _ _ _ => F9
      rename News _ _ _ _ => N9
      rw [List.push_toArray] at N9
      rename Obj.data _ = Data.cell (some (Value.ref _)) => hcell
      exact added_end hl hri hus hns (fun p hp => hp) F9 ⟨rfl, trivial⟩ N9 (by k_mem) (by k_mem) (by k_mem) hcell (fun p hp => .tail _ (.tail _ (.tail _ (.tail _ (.tail _ (List.mem_append_left _ hp)))))) (fun p hp => .tail _ (.tail _ (.tail _ (.tail _ (.tail _ (List.mem_append_right _ hp)))))) hne hoff hrow5
    case tryR =>
      (try k_fold)
      k_steps
      rename Fr _ _ _ _ => F9
      rename News _ _ _ _ => N9
      rw [List.push_toArray] at N9
      rename Obj.data _ = Data.cell (some (Value.ref _)) => hcell
      refine added_new1 hl hri hus hns F9 ⟨rfl, trivial⟩ N9 (by k_mem) (by k_mem) (by k_mem) hcell (by walk_at "m:sub") hne ?_ hoff ?_
      · first | assumption | exact And.right (by assumption) | exact And.right (And.right (by assumption)) | exact And.right (And.right (And.right (by assumption))) | exact And.right (And.right (And.right (And.right (by assumption))))
      · exact RowAt.tryR (.head _)
    case rt hrt =>
      (try k_fold)
      k_steps
      rename Fr _ _ _ _ => F9
      rename News _ _ _ _ => N9
      rw [List.push_toArray] at N9
      rename Obj.data _ = Data.cell (some (Value.ref _)) => hcell
      refine added_new2 hl hri hus hns F9 ⟨rfl, trivial⟩ N9 (.tail _ (.head _)) (by k_mem) (by k_mem) (by k_mem) hcell (by walk_at "m:sub") hne ?_ hoff ?_
      · first | assumption | exact And.right (by assumption) | exact And.right (And.right (by assumption)) | exact And.right (And.right (And.right (by assumption))) | exact And.right (And.right (And.right (And.right (by assumption))))
      · exact hrt _ _ _ _ _ (.head _)
    case sot za zt g0 g1 g2 g3 u0 u1 u2 u3 zn hz =>
      (try k_fold)
      k_steps
      rename Fr _ _ _ _ => F5
      rename News _ _ _ _ => N5
      refine Stop.mk ⟨_, _, _, _, rfl, rfl, F5, N5, .head _, ?_, ?_⟩
      · rw [sizeLine_eq]; exact Nat.le_of_ble_eq_true rfl
      rintro _ ⟨h5, rfl⟩
      refine LCg.CompRest.succ fun v I oI C oC D m₂ h6 tk6 E' hv hoC hm2 F6 N6 off6 ne6 => ?_
      obtain rfl : Value.int g0 u0 = v := Option.some.inj hv
      (try k_fold)
      k_steps
      refine LCg.CompEnd.intro F6 N6 _ (fun p hp => hp) off6 (.head _) ?_
      (first | clear F6 N6 off6 ne6 hm2 hoC hv | ((try clear hv); (try clear hoC); (try clear hm2); (try clear ne6); (try clear off6); (try clear N6); (try clear F6)))
      refine LCg.CompRest.succ fun v I oI C oC D m₂ h6 tk6 E' hv hoC hm2 F6 N6 off6 ne6 => ?_
      obtain rfl : Value.int g1 u1 = v := Option.some.inj hv
      (try k_fold)
      k_steps
      refine LCg.CompEnd.intro F6 N6 _ (fun p hp => hp) off6 (.head _) ?_
      (first | clear F6 N6 off6 ne6 hm2 hoC hv | ((try clear hv); (try clear hoC); (try clear hm2); (try clear ne6); (try clear off6); (try clear N6); (try clear F6)))
      refine LCg.CompRest.succ fun v I oI C oC D m₂ h6 tk6 E' hv hoC hm2 F6 N6 off6 ne6 => ?_
      obtain rfl : Value.int g2 u2 = v := Option.some.inj hv
      (try k_fold)
      k_steps
      refine LCg.CompEnd.intro F6 N6 _ (fun p hp => hp) off6 (.head _) ?_
      (first | clear F6 N6 off6 ne6 hm2 hoC hv | ((try clear hv); (try clear hoC); (try clear hm2); (try clear ne6); (try clear off6); (try clear N6); (try clear F6)))
      refine LCg.CompRest.succ fun v I oI C oC D m₂ h6 tk6 E' hv hoC hm2 F6 N6 off6 ne6 => ?_
      obtain rfl : Value.int g3 u3 = v := Option.some.inj hv
      (try k_fold)
      k_steps
      refine LCg.CompEnd.intro F6 N6 _ (fun p hp => hp) off6 (.head _) ?_
      (first | clear F6 N6 off6 ne6 hm2 hoC hv | ((try clear hv); (try clear hoC); (try clear hm2); (try clear ne6); (try clear off6); (try clear N6); (try clear F6)))
      refine LCg.CompRest.zero ?_
      intro D7 h7 tk7 F7 N7 off7
      dsimp only [List.nil_append, List.cons_append] at N7
      (first | clear F5 N5 | ((try clear N5); (try clear F5)))
      have x1 : D7 ≠ lm := Ne.symm (off1_mem off7 (lm, _) (by k_mem))
      have x2 : D7 ≠ L' + 1 + 1 := Ne.symm (off1_mem off7 (L' + 1 + 1, _) (by k_mem))
      have x3 : D7 ≠ L' + 1 := Ne.symm (off1_mem off7 (L' + 1, _) (by k_mem))
      (try k_fold)
      k_steps
      rename Fr _ _ _ _ => F9
      rename News _ _ _ _ => N9
      rw [List.push_toArray] at N9
      rename Obj.data _ = Data.cell (some (Value.ref _)) => hcell
      refine added_new1 hl hri hus hns F9 ⟨rfl, trivial⟩ N9 (by k_mem) (by k_mem) (by k_mem) hcell (by walk_at "m:sub") hne ?_ hoff ?_
      · first | exact And.right (And.right (And.right (And.right (And.right (by assumption))))) | exact And.right (And.right (And.right (And.right (by assumption))))
      · exact RowAt.sot (.head _)
    case sos za zd zt zu zn zo zg0 zg1 zu0 hz hmz hdz loz =>
      obtain ⟨es, ep, hc, hdat, hk, hp, hnn⟩ := id hdz
      have hsz : es.size = 1 := by have := hp.length; simpa using this
      (try k_fold)
      k_steps
      rename Fr _ _ _ _ => F5
      rename News _ _ _ _ => N5
      have hlt5 := news_lt N5
      have hsys := sys_lt (modules_low (Top.nolimit T')) F5
      refine Stop.mk ⟨zd, zo, es, ep, _, rfl, rfl, F5, N5, by k_mem, hc, hdat, loz, ?_⟩
      rintro _ ⟨h5, rfl, hle⟩
      rw [hsz]
      intro v I oI C oC D m₂ h6 tk6 E' hv hoC hm2 F6 N6 off6 ne6
      obtain ⟨e, hei, rfl⟩ := hv
      have he' : es.toList[0]? = some e := by rw [Array.getElem?_toList]; exact hei
      obtain ⟨hkey, hval⟩ := hp.get? he' (k := 30) (v := .int zg0 zu0) rfl
      obtain ⟨tke, hk2⟩ := Value.isInt_shape hkey
      rw [hk2] at hm2
      (first | clear F5 N5 | ((try clear N5); (try clear F5)))
      (try k_fold)
      k_steps
      rw [hk2] at hkey
      refine kda_item N6 (by k_mem) hdz hkey (v := .int zg0 zu0) (by simp [valueAt]) ?_ (by with_unfolding_all rfl) (by intro _; with_unfolding_all rfl)
      (try k_fold)
      k_steps
      rename Fr _ _ _ _ => F7
      rename News _ _ _ _ => N7
      refine dset_int (kvs := []) F7 N7 off6 ne6 ?_ hkey (by rw [sizeLine_eq]; exact Nat.zero_le _) ?_
      · exact dict_nil
      intro h8 o8 F8 N8 hd8
      refine ⟨h8, _, o8, _, rfl, F8, N8, off6, by k_mem, ?_⟩
      intro D9 h9 tk9 F9 N9 off9 hle9
      have hd9 : Obj.IsDictOf (intKind PG w) o8 [(30, .int (zg0 + d) _)] := hd8
      have hall := fun p hp => Nat.lt_of_lt_of_le (hlt5 p hp) (Nat.le_trans hle hle9)
      have lo9 : (D9 == sysModules) = false := beq_eq_false_iff_ne.mpr (Nat.ne_of_gt (Nat.lt_of_lt_of_le hsys (Nat.le_trans hle hle9)))
      have x1 : lm < D9 := hall (lm, _) (by k_mem)
      have x2 : L' + 1 + 1 < D9 := hall (L' + 1 + 1, _) (by k_mem)
      have x3 : L' + 1 < D9 := hall (L' + 1, _) (by k_mem)
      have x4 : ∀ p ∈ ls ++ own, p.1 < D9 := fun p hp => hall p (.tail _ (.tail _ (.tail _ (.tail _ (.tail _ hp)))))
      have y1 : D9 ≠ lm := Nat.ne_of_gt x1
      have y2 : D9 ≠ L' + 1 + 1 := Nat.ne_of_gt x2
      have y3 : D9 ≠ L' + 1 := Nat.ne_of_gt x3
      (first | clear F7 N7 F8 N8 hd8 | ((try clear hd8); (try clear N8); (try clear F8); (try clear N7); (try clear F7)))
      (try k_fold)
      k_steps
      rename Fr _ _ _ _ => F9'
      rename News _ _ _ _ => N9'
      rw [List.push_toArray] at N9'
      rename Obj.data _ = Data.cell (some (Value.ref _)) => hcell
      rename D9 < _ ∧ _ => hl9
      refine added_new3 hl hri hus hns F9' ⟨rfl, trivial⟩ N9' (.head _) (.tail _ (.head _)) (by k_mem) (by k_mem) (by k_mem) hcell (fun p hp => .tail _ (.tail _ (.tail _ (.tail _ (.tail _ (.tail _ (.tail _ hp))))))) hne hl9.2.2.2 ⟨x1, x2, x3, allLt_of x4⟩ hoff ?_
      exact RowAt.sos (.head _) (.tail _ (.head _)) hd9 lo9
    case soc za zd zt zu zn zg0 zg1 zg2 hz hT =>
      ((with_reducible refine Mine.hide fun G9 hG9 => ?_); obtain ⟨zo, es, ep, k0, k1, ok0, ok1, hmz, hc, hdat, loz, hsz, hke0, hke1, hmk0, tk0, hmk1, tk1, hG0, hG1⟩ := soc_inv hT; refine hG9 ?_; clear hG9 G9)
      (try k_fold)
      k_steps
      rename Fr _ _ _ _ => F5
      rename News _ _ _ _ => N5
      have hlt5 := news_lt N5
      have hsys := sys_lt (modules_low (Top.nolimit T')) F5
      refine Stop.mk ⟨zd, zo, es, ep, _, rfl, rfl, F5, N5, by k_mem, hc, hdat, loz, ?_⟩
      rintro _ ⟨h5, rfl, hle⟩
      rw [hsz]
      intro v I oI C oC D m₂ h6 tk6 E' hv hoC hm2 F6 N6 off6 ne6
      obtain ⟨e, hei, rfl⟩ := hv
      rw [(hke0 e hei).1] at hm2
      (first | clear F5 N5 | ((try clear N5); (try clear F5)))
      (try k_fold)
      k_steps
      refine hG0 (fun p hp => N6 p (.tail _ (.tail _ (.tail _ (.tail _ (.tail _ (.tail _ (.tail _ (.tail _ (List.mem_append_left _ hp)))))))))) (by units_room) (fun t3 tk3 => ?_) (by intro _; with_unfolding_all rfl)
      (try k_fold)
      k_steps
      rename Fr _ _ _ _ => F7
      rename News _ _ _ _ => N7
      refine dset_tup (xs := []) F7 N7 off6 ne6 (fun p hp => .tail _ (.tail _ (.tail _ (.tail _ (.tail _ (List.mem_append_left _ hp)))))) tab_nil hmk0 tk0 (by rw [sizeLine_eq]; exact Nat.zero_le _) (by units_room) ?_
      intro h8 o8 tk8 F8 N8 hd8
      refine ⟨h8, _, o8, _, rfl, F8, N8, off6, by k_mem, ?_⟩
      obtain ⟨t9, hd9⟩ : ∃ t, TabObj PG w ls o8 [([5, 0], k0, .int (zg0 + d) t)] := ⟨_, hd8⟩
      (first | clear F7 N7 F8 N8 hoC hm2 off6 ne6 I C oI oC hd8 E' h8 h6 D hei e | ((try clear e); (try clear hei); (try clear D); (try clear h6); (try clear h8); (try clear E'); (try clear hd8); (try clear oC); (try clear oI); (try clear C); (try clear I); (try clear ne6); (try clear off6); (try clear hm2); (try clear hoC); (try clear N8); (try clear F8); (try clear N7); (try clear F7)))
      intro v I oI C oC D m₂ h6 tk6 E' hv hoC hm2 F6 N6 off6 ne6
      obtain ⟨e, hei, rfl⟩ := hv
      rw [(hke1 e hei).1] at hm2
      (try k_fold)
      k_steps
      refine hG1 (fun p hp => N6 p (.tail _ (.tail _ (.tail _ (.tail _ (.tail _ (.tail _ (.tail _ (.tail _ (List.mem_append_left _ hp)))))))))) (by units_room) (fun t3 tk3 => ?_) (by intro _; with_unfolding_all rfl)
      (try k_fold)
      k_steps
      rename Fr _ _ _ _ => F7
      rename News _ _ _ _ => N7
      refine dset_tup (xs := [([5, 0], k0, _)]) F7 N7 off6 ne6 (fun p hp => .tail _ (.tail _ (.tail _ (.tail _ (.tail _ (List.mem_append_left _ hp)))))) hd9 hmk1 tk1 (by rw [sizeLine_eq]; exact Nat.le_of_ble_eq_true rfl) (by units_room) ?_
      intro h8 o9 tk8 F8 N8 hd8
      refine ⟨h8, _, o9, _, rfl, F8, N8, off6, by k_mem, ?_⟩
      obtain ⟨t10, hd10⟩ : ∃ t, TabObj PG w ls o9 [([5, 0], k0, .int (zg0 + d) t9), ([5, -4], k1, .int (zg1 + d) t)] := ⟨_, hd8⟩
      (first | clear F7 N7 F8 N8 hoC hm2 off6 ne6 I C oI oC hd8 hd9 E' h8 h6 D hei e | ((try clear e); (try clear hei); (try clear D); (try clear h6); (try clear h8); (try clear E'); (try clear hd9); (try clear hd8); (try clear oC); (try clear oI); (try clear C); (try clear I); (try clear ne6); (try clear off6); (try clear hm2); (try clear hoC); (try clear N8); (try clear F8); (try clear N7); (try clear F7)))
      intro D9 h9 tk9 F9 N9 off9 hle9
      have hall := fun p hp => Nat.lt_of_lt_of_le (hlt5 p hp) (Nat.le_trans hle hle9)
      have lo9 : (D9 == sysModules) = false := beq_eq_false_iff_ne.mpr (Nat.ne_of_gt (Nat.lt_of_lt_of_le hsys (Nat.le_trans hle hle9)))
      have x1 : lm < D9 := hall (lm, _) (by k_mem)
      have x2 : L' + 1 + 1 < D9 := hall (L' + 1 + 1, _) (by k_mem)
      have x3 : L' + 1 < D9 := hall (L' + 1, _) (by k_mem)
      have x4 : ∀ p ∈ ls ++ own, p.1 < D9 := fun p hp => hall p (.tail _ (.tail _ (.tail _ (.tail _ (.tail _ hp)))))
      have y1 : D9 ≠ lm := Nat.ne_of_gt x1
      have y2 : D9 ≠ L' + 1 + 1 := Nat.ne_of_gt x2
      have y3 : D9 ≠ L' + 1 := Nat.ne_of_gt x3
      (try k_fold)
      k_steps
      rename Fr _ _ _ _ => F9'
      rename News _ _ _ _ => N9'
      rw [List.push_toArray] at N9'
      rename Obj.data _ = Data.cell (some (Value.ref _)) => hcell
      rename D9 < _ ∧ _ => hl9
      refine added_new3 hl hri hus hns F9' ⟨rfl, trivial⟩ N9' (.head _) (.tail _ (.head _)) (by k_mem) (by k_mem) (by k_mem) hcell (fun p hp => .tail _ (.tail _ (.tail _ (.tail _ (.tail _ (.tail _ (.tail _ hp))))))) hne hl9.2.2.2 ⟨x1, x2, x3, allLt_of x4⟩ hoff ?_
      exact RowAt.soc (.head _) (tab_done hd10 (fun p hp => .tail _ (.tail _ hp)) (.tail _ (.head _)) lo9)
  · (intro m1 nx h1 tk1 h99 F3 N3; (with_reducible refine Mine.hide fun G9 hG9 => ?_); rcases h99 with ⟨us, k, oc, vc, ls, rfl, hns, hne, hoc, hus, V⟩ <;> (refine hG9 ?_; clear hG9 G9))
    have F4 := Fr.vars' V F3
    (first | clear F3 F2 N2 | ((try clear N2); (try clear F2); (try clear F3)))
    rw [hr.1, List.take_length] at hus
    (try k_fold)
    k_steps
    exact hret _ _ _ _ (by k_asm) (by k_asm) ⟨lm, us, k, rfl, .head _, RowsAt.mono hus fun p hp => .tail _ (.tail _ (.tail _ hp)), fun p hp => .tail _ (.tail _ (.tail _ (hns p hp)))⟩
end Mine
end
section
open PyProof.Rows.LCg PySem.Spec
namespace Mine
section
variable {prog : Program} {w : World} {A : Around} {E : Value → Shared → Prop} {s : Shared} {h₀ : Heap} {L : Addr} {m : Str → Option Value} {env : Env}
/-- a list comprehension by an invariant between its turns -/
theorem block_L {elt iter : PySem.Expr} {x : Str} {px : Pos} {scope : Scope} {cl : List (Str × Addr)} {pos : Pos} {s₂ : Shared} {I : Addr} {fp : List Addr} {n : Nat} {P : Nat → Value → Prop} {St : Nat → Heap → Prop} {S : Led → Prop} {news : Led}
    {PI : Obj → Prop} {J : Nat → List Value → Led → Prop} {RR : Value → Addr → Result → Shared → Prop}
    (W : Walks prog w A I fp [I] n P St) (hsz : n ≤ sizeLine) (hIo : ∀ i h, St i h → ∃ o, h.get? I = some o ∧ PI o)
    (hSt : ∀ i h h' o nw, St i h → h.get? I = some o → h'.get? I = some o → (∀ b o, h₀.get? b = some o → h'.get? b = some o) → News h₀ L h' nw → S nw → St i h')
    (hcell : ∀ y ∈ scope.names, y.2 ≠ .cell) (hkind : scope.kind = .function) (hx : scope.names.lookup x = some .local) (hst : St 0 s₂.heap) (hfp : ∀ b ∈ fp, b < s₂.heap.objs.size)
    (F : Fr h₀ L s₂.heap m) (N : News h₀ L s₂.heap news) (hIL : L ≠ I) (hI₀ : h₀.get? I = none) (off : ∀ p ∈ news, p.1 ≠ I) (hS : S news) (hJ : J 0 [] news)
    (turn : ∀ i ys nx v oI C oC D m₂ h tk (E' : Value → Shared → Prop), i < n → ys.length = i → J i ys nx → S nx → P i v → PI oI → NsObj oC m₂ → m₂ x = some v → Fr h₀ L h m → News h₀ L h ((I, oI) :: (C, oC) :: (D, lst ys) :: nx) → Off3 I C D nx → ((@Ne Nat I C) ∧ (@Ne Nat I D) ∧ (@Ne Nat C D)) →
      wpAny (model prog w) A (eval elt (compEnvC scope cl C env)) (CompEnd h₀ L m { s₂ with heap := h, toks := tk } I oI C oC D (lst ys) S (fun y nx' => J (i + 1) (ys ++ [y]) nx')) E' { s₂ with heap := h, toks := tk })
    (hRR : ∀ D C h tk m' ys news', Fr h₀ L h m → News h₀ L h ((D, lst ys) :: news') → Off1 D news' → h.Ns C m' → h₀.get? C = none → h₀.get? D = none → C ≠ L → D ≠ L → C ≠ D → (∀ p ∈ news', p.1 ≠ C) → ys.length = n → J n ys news' → RR (.ref D) C (.ok .next) { s₂ with heap := h, toks := tk }) :
    wpAny (model prog w) A (newList []) (fun acc s₃ => wpAny (model prog w) A (newFunctionEnv scope env.globals cl [] env.qual none .none (some env)) (fun cenv s₄ =>
      codeAny (model prog w) A (.compStart (.ListComp elt [⟨.Name x px, iter, [], 0⟩] scope pos) 0 (.ref I) acc { cenv with scope := relabel scope env }) (RR acc cenv.locals) s₄) E s₃) E s₂ := by
  refine wpAny_newObj_type (wpAny_newFunctionEnv hcell (by intro y hy; simp at hy) (fun h₁ hns₁ hsb₁ => ?_) hkind)
  dsimp only at hns₁ hsb₁ ⊢
  generalize hH2 : s₂.heap.push { cls := .type "list", dict := none, data := .seq ([] : List Value).toArray } = H2 at hns₁ hsb₁ ⊢
  have hC : H2.objs.size = s₂.heap.objs.size + 1 := by rw [← hH2, Heap.size_push]
  have hDC : s₂.heap.objs.size ≠ H2.objs.size := by rw [hC]; exact Nat.ne_of_lt (Nat.lt_succ_self _)
  have below : ∀ b, b < s₂.heap.objs.size → b ≠ H2.objs.size ∧ b ≠ s₂.heap.objs.size := fun b hb => ⟨by rw [hC]; exact Nat.ne_of_lt (Nat.lt_succ_of_lt hb), Nat.ne_of_lt hb⟩
  have hDf : s₂.heap.objs.size ∉ fp := fun hm => Nat.lt_irrefl _ (hfp _ hm)
  have hCf : H2.objs.size ∉ fp := fun hm => by have := hfp _ hm; rw [hC] at this; exact Nat.lt_irrefl _ (Nat.lt_of_succ_lt this)
  have hIf : I ∈ fp := W.sub I (List.mem_singleton.mpr rfl)
  have hIlt : I < s₂.heap.objs.size := hfp I hIf
  have old : ∀ b o, s₂.heap.get? b = some o → h₁.get? b = some o := fun b o e => hsb₁.extBut b o (below b (Heap.lt_size e)).1 (Heap.get?_push_of_some _ (hH2 ▸ Heap.get?_push_of_some _ e))
  have hacc : h₁.get? s₂.heap.objs.size = some (lst []) := hsb₁.extBut _ _ hDC (Heap.get?_push_of_some _ (hH2 ▸ Heap.get?_push_size _ rfl))
  have hst₁ : St 0 h₁ := W.frame _ _ _ hst fun b _ o e => old b o e
  have fresh : ∀ a, s₂.heap.objs.size ≤ a → s₂.heap.get? a = none := fun a ha => by
    cases e : s₂.heap.get? a with
    | none => rfl
    | some o' => exact absurd (Heap.lt_size e) (Nat.not_lt.mpr ha)
  have fresh₀ : ∀ a, s₂.heap.objs.size ≤ a → h₀.get? a = none := fun a ha => by
    cases e : h₀.get? a with
    | none => rfl
    | some o' => have := F.keep a o' e; rw [fresh a ha] at this; cases this
  have hD₀ : h₀.get? s₂.heap.objs.size = none := fresh₀ _ (Nat.le_refl _)
  have hC₀ : h₀.get? H2.objs.size = none := fresh₀ _ (by rw [hC]; exact Nat.le_succ _)
  have hLlt : L < s₂.heap.objs.size := F.ns.lt
  have hDL : s₂.heap.objs.size ≠ L := Ne.symm (below L hLlt).2
  have hCL : H2.objs.size ≠ L := Ne.symm (below L hLlt).1
  have hCI : I ≠ H2.objs.size := (below I hIlt).1
  have hDI : I ≠ s₂.heap.objs.size := (below I hIlt).2
  have off₀ : Off3 I H2.objs.size s₂.heap.objs.size news := Off3.of fun p hp => ⟨off p hp, (below _ (Heap.lt_size (N p hp).1)).1, (below _ (Heap.lt_size (N p hp).1)).2⟩
  have loop : ∀ s₃ : Shared, s₃ = { s₂ with heap := h₁, toks := s₂.toks + ([] : List (Str × Value)).length } →
      codeAny (model prog w) A (.compLoop (.ListComp elt [⟨.Name x px, iter, [], 0⟩] scope pos) 0 (.ref I) (.ref s₂.heap.objs.size) (compEnvC scope cl H2.objs.size env))
        (RR (.ref s₂.heap.objs.size) H2.objs.size) s₃ := by
    rintro s₃ rfl
    refine codeAny_compLoop_tests
      (fun k s' => ∃ h' tk i ys m' nx, s' = { s₂ with heap := h', toks := tk } ∧ i ≤ n ∧ k = n + 1 - i ∧ ys.length = i ∧ St i h' ∧ Fr h₀ L h' m ∧ h'.Ns H2.objs.size m' ∧ News h₀ L h' ((s₂.heap.objs.size, lst ys) :: nx) ∧
        Off3 I H2.objs.size s₂.heap.objs.size nx ∧ S nx ∧ J i ys nx) ?_ (n + 1)
      ⟨h₁, _, 0, [], _, news, rfl, Nat.zero_le _, rfl, rfl, hst₁, F.keeps old, hns₁, fun p hp => ?_, off₀, hS, hJ⟩
    · (intro k s' h99; (with_reducible refine Mine.hide fun G9 hG9 => ?_); rcases h99 with ⟨h', tk, i, ys, m', nx, rfl, hi, rfl, hyl, hst', F', hn', N', off', hS', hJ'⟩ <;> (refine hG9 ?_; clear hG9 G9))
      by_cases hlt : i < n
      · refine W.item i _ _ _ hlt hst' fun v h₂ tk₂ hPv hst₂ hk₂ => ?_
        refine wpAny_assign_Name (wpAny_storeName_local (lookup_relabel_local hx) (hn'.at' fun o e => hk₂ _ o (by simpa using Ne.symm hCI) e) (fun h₃ hn₃ hs₃ => ?_) (by simp [compEnvC, relabel, hkind]))
        refine wpAny_tests_nil ?_
        simp only [if_true]
        have hst₃ : St (i + 1) h₃ := W.frame _ _ _ hst₂ fun b hb o e => hs₃.extBut b o (fun q => hCf (by have q' : b = H2.objs.size := q; rw [← q']; exact hb)) e
        obtain ⟨oI, heI, hPI⟩ := hIo _ _ hst₃
        obtain ⟨oC, heC, hoC⟩ := ns_obj hn₃
        have F₃ : Fr h₀ L h₃ m := (fr_but F' hk₂ hIL hI₀).change hs₃ hCL hC₀
        have off3 := off'.mem
        have N₂ : News h₀ L h₂ ((s₂.heap.objs.size, lst ys) :: nx) := news_but N' hk₂ fun p hp => by
          rcases List.mem_cons.mp hp with rfl | hp
          · exact Ne.symm hDI
          · exact (off3 p hp).1
        have N₃ : News h₀ L h₃ ((I, oI) :: (H2.objs.size, oC) :: (s₂.heap.objs.size, lst ys) :: nx) := fun p hp => by
          rcases List.mem_cons.mp hp with rfl | hp
          · exact ⟨heI, Ne.symm hIL, hI₀⟩
          · rcases List.mem_cons.mp hp with rfl | hp
            · exact ⟨heC, hCL, hC₀⟩
            · have z := N₂ p hp
              refine ⟨hs₃.extBut _ _ ?_ z.1, z.2⟩
              rcases List.mem_cons.mp hp with rfl | hp
              · exact hDC
              · exact (off3 p hp).2.1
        refine wpAny_mono (turn i ys nx v oI H2.objs.size oC s₂.heap.objs.size _ h₃ _ _ hlt hyl hJ' hS' hPv hPI hoC (by simp) F₃ N₃ off' ⟨hCI, hDI, Ne.symm hDC⟩) (fun y s₄ h₄ => ?_) fun _ _ e => e
        ((with_reducible refine Mine.hide fun G9 hG9 => ?_); obtain ⟨h₄, tk₄, news₄, rfl, F₄, N₄, off₄, hS₄, hJ₄⟩ := h₄; refine hG9 ?_; clear hG9 G9)
        have zI := (N₄ (I, oI) (.head _)).1
        have zC := (N₄ (H2.objs.size, oC) (.tail _ (.head _))).1
        have zD := (N₄ (s₂.heap.objs.size, lst ys) (.tail _ (.tail _ (.head _)))).1
        have N₄' : News h₀ L h₄ news₄ := fun p hp => N₄ p (.tail _ (.tail _ (.tail _ hp)))
        have hst₄ : St (i + 1) h₄ := hSt _ _ _ _ _ hst₃ heI zI F₄.keep N₄' hS₄
        refine append_at (hsz := by show ys.toArray.size ≤ sizeLine; rw [List.size_toArray, hyl]; exact Nat.le_trans hi hsz) zD fun h₅ hs₅ hD₅ => ?_
        have off4 := off₄.mem
        refine ⟨n + 1 - (i + 1), by omega, h₅, tk₄, i + 1, ys ++ [y], _, news₄, rfl, hlt, rfl, by rw [List.length_append, List.length_singleton, hyl], W.frame _ _ _ hst₄ fun b hb o e => hs₅.extBut b o (fun q => hDf (q ▸ hb)) e, F₄.change hs₅ hDL hD₀,
          (hoC.ns zC).sameBut hs₅ (Ne.symm hDC), fun p hp => ?_, off₄, hS₄, hJ₄⟩
        rcases List.mem_cons.mp hp with rfl | hp
        · exact ⟨hD₅.trans (congrArg some (lst_snoc ys y)), hDL, hD₀⟩
        · exact ⟨hs₅.extBut _ _ (off4 p hp).2.2 (N₄' p hp).1, (N₄' p hp).2⟩
      · obtain rfl : i = n := Nat.le_antisymm hi (Nat.not_lt.mp hlt)
        refine W.done _ _ _ hst' fun h₂ tk₂ hk₂ => ?_
        have off3 := off'.mem
        exact hRR _ _ h₂ tk₂ _ ys nx (fr_but F' hk₂ hIL hI₀) (news_but N' hk₂ fun p hp => by
          rcases List.mem_cons.mp hp with rfl | hp
          · exact Ne.symm hDI
          · exact (off3 p hp).1) off'.one (hn'.at' fun o e => hk₂ _ o (by simpa using Ne.symm hCI) e) hC₀ hD₀ hCL hDL (Ne.symm hDC) (fun p hp => (off3 p hp).2.1) hyl hJ'
    · rcases List.mem_cons.mp hp with rfl | hp
      · exact ⟨hacc, hDL, hD₀⟩
      · exact ⟨old _ _ (N p hp).1, (N p hp).2⟩
  exact codeAny_compStart_list (loop _ rfl) (W.self 0 _ _ _ hst₁ (loop _ rfl))
/-- a comprehension whose source is range(n) -/
def SrcRng (prog : Program) (w : World) (A : Around) (h₀ : Heap) (L : Addr) (m : Str → Option Value) (env : Env) (elt : PySem.Expr) (x : Str) (scope : Scope) (cl : List (Str × Addr)) (Fin : Shared → List Value → Led → Prop) (xv : Value) (s₁ : Shared) : Prop :=
  ∃ (r : Addr) (b : Int) (t₀ u₀ v₀ : Tok) (n : Nat) (news : Led) (J : Nat → List Value → Led → Prop), xv = .ref r ∧ A.handled = none ∧ Fr h₀ L s₁.heap m ∧ News h₀ L s₁.heap news ∧ IsRange s₁.heap r 0 b 1 t₀ u₀ v₀ ∧ b = ((n : Nat) : Int) ∧ n ≤ 1000000 ∧ J 0 [] news ∧
    (∀ i ys nx t I oI C oC D m₂ h tk (E' : Value → Shared → Prop), i < n → ys.length = i → J i ys nx → (∃ fs, oI.data = Data.fields fs) → NsObj oC m₂ → m₂ x = some (.int (i : Int) t) → Fr h₀ L h m → News h₀ L h ((I, oI) :: (C, oC) :: (D, lst ys) :: nx) → Off3 I C D nx → ((@Ne Nat I C) ∧ (@Ne Nat I D) ∧ (@Ne Nat C D)) →
      wpAny (model prog w) A (eval elt (compEnvC scope cl C env)) (CompEnd h₀ L m { s₁ with heap := h, toks := tk } I oI C oC D (lst ys) (fun _ => True) (fun y nx' => J (i + 1) (ys ++ [y]) nx')) E' { s₁ with heap := h, toks := tk }) ∧
    (∀ ys nx, ys.length = n → J n ys nx → Fin s₁ ys nx)
theorem Assign_rng {elt iter : PySem.Expr} {x y : Str} {px py : Pos} {scope : Scope} {cl : List (Str × Addr)} {pos spos : Pos} {Q : Flow → Shared → Prop} (F₀ : Fr h₀ L s.heap m) (hLe : env.locals = L)
    (hsw : swapsWith (.ListComp elt [⟨.Name x px, iter, [], 0⟩] scope pos) (some (.Name y py)) spos.line env = pure true)
    (hclos : closureFor scope env = pure cl) (hcell : ∀ z ∈ scope.names, z.2 ≠ .cell) (hkind : scope.kind = .function)
    (hnames : ∀ z ∈ scope.names, z.2 = .local → scope.names.lookup z.1 = some .local) (hx : scope.names.lookup x = some .local)
    (hy : env.kindOf y = some .local) (hp : (env.scope.kind == .class || (env.scope.kind == .module && env.locals != env.globals)) = false)
    (h : wpAny (model prog w) A (eval iter env) (fun xv s₁ => Stop (SrcRng prog w A h₀ L m env elt x scope cl (fun s₂ => FinA h₀ L m s₂ y Q) xv s₁)) E s)
    (hs : ∀ x, foldedSetIterable iter env x = pure x := by intro _; rfl) :
    wpAny (model prog w) A (exec (.Assign [.Name y py] (.ListComp elt [⟨.Name x px, iter, [], 0⟩] scope pos) spos) env) Q E s := by
  subst hLe
  rw [exec_Assign_Name_used _ _ _ _ hsw]
  refine wpAny_bind (wpAny_standAt (wpAny_bind ?_))
  show wpAny _ A (do let _ ← comprehension (.ListComp elt [⟨.Name x px, iter, [], 0⟩] scope pos) scope env _ (newList []) false (eval iter env) (some (assign (.Name y py) env))) _ _ s
  refine wpAny_bind (wpAny_mono (wpAny_comprehension_free (use := some (assign (.Name y py) env)) (Q := fun _ s' => Q .next s') rfl hs hclos hkind hnames
    (wpAny_mono h (fun xv s₁ h₁ => ?_) fun _ _ e => e)) (fun _ s' hq => wpAny_pure (wpAny_pure hq)) fun _ _ e => e)
  ((with_reducible refine Mine.hide fun G9 hG9 => ?_); obtain ⟨r, b, t₀, u₀, v₀, n, news, J, rfl, hh, F, N, hr, rfl, hn, hJ, turn, done⟩ := h₁.out; refine hG9 ?_; clear hG9 G9)
  have hsm : Builtin.Range.small 0 (n : Int) 1 = true := small_one (by omega) (by omega) (by omega) (by omega)
  have hrs : Builtin.Range.rangeSize 0 (n : Int) 1 = (n : Int) := by rw [rangeSize_nat]; omega
  refine wpAny_pyIter_range hr hsm ?_
  refine block_L (PI := fun o => ∃ fs, o.data = Data.fields fs) (J := J) (range_walks hh 0 n) (by rw [sizeLine_eq]; omega) (fun i h st => ⟨_, st, _, rfl⟩) range_st hcell hkind hx (by show IsRangeIter _ _ _ _ _; rw [hrs]; simpa using Heap.get?_push_size _ rfl) (fun b hb => ?_)
    (F.keeps fun _ _ e => Heap.get?_push_of_some _ e) (N.grown fun _ _ e => Heap.get?_push_of_some _ e) (Nat.ne_of_lt F.ns.lt) (next_is_new F) (fun p hp => Nat.ne_of_lt (Heap.lt_size (N p hp).1)) trivial hJ ?_ ?_
  · rw [List.mem_singleton.mp hb]
    show s₁.heap.objs.size < (s₁.heap.push _).objs.size
    rw [Heap.size_push]; exact Nat.lt_succ_self _
  · intro i ys nx v oI C oC D m₂ h tk E' hi hyl hj _ hP hPI hoC hm F' N' off ne
    obtain ⟨t, rfl⟩ := hP
    rw [Int.zero_add] at hm
    exact turn i ys nx t _ oI C oC D m₂ h tk E' hi hyl hj hPI hoC hm F' N' off ne
  · intro D C h' tk m' ys news' F' N' o1 hn' hC₀ hD₀ hCL hDL hCD offC hyl fin
    show wpAny _ A (assign (.Name y py) env (.ref D)) _ _ _
    refine wpAny_assign_Name (wpAny_storeName_local hy F'.ns (fun h₂ hn₂ hs₂ => ?_) hp)
    have hL₀ : h₀.get? env.locals = none := Heap.get?_none_of_le F'.above
    have F₂ : Fr h₀ env.locals h₂ (fun z => if z = y then some (.ref D) else m z) := ⟨hn₂, fun b o e => hs₂.extBut b o (fun q => by rw [q, hL₀] at e; cases e) (F'.keep b o e), F'.above⟩
    refine ⟨m', hn'.sameBut hs₂ hCL, fun h'' hs'' => done ys news' hyl fin D h'' _ (F₂.change hs'' hCL hC₀) (fun p hp => ?_) o1⟩
    have z : h₂.get? p.1 = some p.2 := hs₂.extBut _ _ (N' p hp).2.1 (N' p hp).1
    refine ⟨hs''.extBut _ _ ?_ z, (N' p hp).2⟩
    rcases List.mem_cons.mp hp with rfl | hp
    · exact Ne.symm hCD
    · exact offC p hp
/-- a comprehension whose source is a list of the ledger -/
def SrcLst (prog : Program) (w : World) (A : Around) (h₀ : Heap) (L : Addr) (m : Str → Option Value) (env : Env) (elt : PySem.Expr) (x : Str) (scope : Scope) (cl : List (Str × Addr)) (Fin : Shared → List Value → Led → Prop) (xv : Value) (s₁ : Shared) : Prop :=
  ∃ (a : Addr) (us : List Value) (c : Nat) (news : Led) (J : Nat → List Value → Led → Prop), xv = .ref a ∧ A.handled = none ∧ Fr h₀ L s₁.heap m ∧ News h₀ L s₁.heap news ∧ (a, listOf us.toArray c) ∈ news ∧ us.length ≤ 1000000 ∧ J 0 [] news ∧
    (∀ i ys nx v I oI C oC D m₂ h tk (E' : Value → Shared → Prop), us[i]? = some v → ys.length = i → J i ys nx → SrcAt h₀ a us.toArray nx → NsObj oC m₂ → m₂ x = some v → Fr h₀ L h m → News h₀ L h ((I, oI) :: (C, oC) :: (D, lst ys) :: nx) → Off3 I C D nx → ((@Ne Nat I C) ∧ (@Ne Nat I D) ∧ (@Ne Nat C D)) →
      wpAny (model prog w) A (eval elt (compEnvC scope cl C env)) (CompEnd h₀ L m { s₁ with heap := h, toks := tk } I oI C oC D (lst ys) (SrcAt h₀ a us.toArray) (fun y nx' => J (i + 1) (ys ++ [y]) nx')) E' { s₁ with heap := h, toks := tk }) ∧
    (∀ ys nx, ys.length = us.length → J us.length ys nx → Fin s₁ ys nx)
theorem ListComp_lst {elt iter : PySem.Expr} {x : Str} {px : Pos} {scope : Scope} {cl : List (Str × Addr)} {pos : Pos} {Q : Value → Shared → Prop} (F₀ : Fr h₀ L s.heap m)
    (hclos : closureFor scope env = pure cl) (hcell : ∀ y ∈ scope.names, y.2 ≠ .cell) (hkind : scope.kind = .function)
    (hnames : ∀ y ∈ scope.names, y.2 = .local → scope.names.lookup y.1 = some .local) (hx : scope.names.lookup x = some .local)
    (h : wpAny (model prog w) A (eval iter env) (fun xv s₁ => Stop (SrcLst prog w A h₀ L m env elt x scope cl (fun s₂ => FinE h₀ L m s₂ Q) xv s₁)) E s)
    (hs : ∀ x, foldedSetIterable iter env x = pure x := by intro _; rfl) :
    wpAny (model prog w) A (eval (.ListComp elt [⟨.Name x px, iter, [], 0⟩] scope pos) env) Q E s := by
  rw [eval_ListComp]
  refine wpAny_comprehension_free (use := none) rfl hs hclos hkind hnames (wpAny_mono h (fun xv s₁ h₁ => ?_) fun _ _ e => e)
  ((with_reducible refine Mine.hide fun G9 hG9 => ?_); obtain ⟨a, us, c, news, J, rfl, hh, F, N, hm, hn, hJ, turn, done⟩ := h₁.out; refine hG9 ?_; clear hG9 G9)
  have hol := (N _ hm).1
  have hl : s₁.heap.IsList a us.toArray := ⟨_, hol, rfl, _, rfl⟩
  have hlt : a < s₁.heap.objs.size := Heap.lt_size hol
  refine wpAny_pyIter_list hl ?_
  have up : ∀ b o, s₁.heap.get? b = some o → (s₁.heap.push { cls := .type "list_iterator", data := .fields #[.ref a, .int 0 0] }).get? b = some o := fun b o e => Heap.get?_push_of_some _ e
  refine block_L (n := us.toArray.size) (PI := fun _ => True) (J := J) (Walks.list hh s₁.heap.objs.size a (Nat.ne_of_lt hlt) us.toArray) (by rw [sizeLine_eq, List.size_toArray]; omega) (fun i h st => by obtain ⟨o, e, _⟩ := st.1; exact ⟨o, e, trivial⟩) list_st hcell hkind hx ⟨⟨_, Heap.get?_push_size _ rfl, rfl, rfl⟩, hl.push _⟩ (fun b hb => ?_)
    (F.keeps up) (N.grown up) (Nat.ne_of_lt F.ns.lt) (next_is_new F) (fun p hp => Nat.ne_of_lt (Heap.lt_size (N p hp).1)) (.inr ⟨_, hm, rfl, _, rfl⟩) hJ ?_ ?_
  · show b < (s₁.heap.push _).objs.size
    rw [Heap.size_push]
    rcases List.mem_cons.mp hb with rfl | hb
    · exact Nat.lt_succ_self _
    · rw [List.mem_singleton.mp hb]; exact Nat.lt_succ_of_lt hlt
  · intro i ys nx v oI C oC D m₂ h tk E' hi hyl hj hS hP hPI hoC hm₂ F' N' off ne
    exact turn i ys nx v _ oI C oC D m₂ h tk E' (by simpa using hP) hyl hj hS hoC hm₂ F' N' off ne
  · intro D C h tk m' ys news' F' N' o1 hn' hC₀ hD₀ hCL hDL hCD offC hyl fin
    rw [List.size_toArray] at hyl fin
    refine ⟨m', hn', fun h'' hs'' => done ys news' hyl fin D h'' tk (F'.change hs'' hCL hC₀) (fun p hp => ?_) o1⟩
    refine ⟨hs''.extBut _ _ ?_ (N' p hp).1, (N' p hp).2⟩
    rcases List.mem_cons.mp hp with rfl | hp
    · exact Ne.symm hCD
    · exact offC p hp
end
end Mine
end
section
open PyProof.V
namespace Mine
/-- an object that a row is made of -/
def Rowish (o : Obj) : Prop := (o.cls = .type "tuple" ∧ ∃ its n, o.data = .seq its n) ∨ ∃ es ep e, o.data = .dict es ep ∧ es[0]? = some e ∧ ∀ x t, e.key ≠ .str x t
open Classical in
/-- the part of a ledger that rows are made of -/
noncomputable def rowsOf (l : Led) : Led := l.filter fun p => decide (Rowish p.2)
theorem rowsOf_sub {l : Led} : ∀ p ∈ rowsOf l, p ∈ l := fun _ hp => (List.mem_filter.mp hp).1
open Classical in
theorem rowsOf_ish {l : Led} : ∀ p ∈ rowsOf l, Rowish p.2 := fun _ hp => of_decide_eq_true (List.mem_filter.mp hp).2
open Classical in
theorem rowsOf_mem {l : Led} {p : Addr × Obj} (h : p ∈ l) (hr : Rowish p.2) : p ∈ rowsOf l := List.mem_filter.mpr ⟨h, decide_eq_true hr⟩
theorem rowsOf_tup {l : Led} {a : Addr} {vs : List Value} {n : Nat} (h : (a, tupO vs n) ∈ l) : (a, tupO vs n) ∈ rowsOf l := rowsOf_mem h (.inl ⟨rfl, _, _, rfl⟩)
theorem rowsOf_ne {h₀ h : Heap} {L : Addr} {l : Led} (N : News h₀ L h l) {a : Addr} {o : Obj} (hm : (a, o) ∈ l) (ho : ¬ Rowish o) : ∀ p ∈ rowsOf l, p.1 ≠ a := fun p hp e => by
  have h1 := (N p (rowsOf_sub p hp)).1
  have h2 := (N _ hm).1
  rw [e] at h1
  rw [h1] at h2
  have h3 : p.2 = o := Option.some.inj h2
  exact ho (h3 ▸ rowsOf_ish p hp)
theorem not_list {vs : Array Value} {n : Nat} : ¬ Rowish (listOf vs n) := by
  rintro (⟨h, _⟩ | ⟨es, ep, e, h, _⟩)
  · exact absurd h (by intro q; injection q with q; exact absurd q (by decide))
  · cases h
theorem not_cell {o : Obj} {v : Option Value} (h : o.data = .cell v) : ¬ Rowish o := by
  rintro (⟨_, its, n, q⟩ | ⟨es, ep, e, q, _⟩) <;> (rw [h] at q; cases q)
theorem not_fields {o : Obj} {v : Array Value} (h : o.data = .fields v) : ¬ Rowish o := by
  rintro (⟨_, its, n, q⟩ | ⟨es, ep, e, q, _⟩) <;> (rw [h] at q; cases q)
theorem not_ns {o : Obj} {m : Str → Option Value} (h : LCg.NsObj o m) : ¬ Rowish o := by
  obtain ⟨es, ep, hd, hk, _⟩ := h
  rintro (⟨_, its, n, q⟩ | ⟨es', ep', e, q, he, hn⟩) <;> rw [hd] at q <;> cases q
  obtain ⟨n, t, hs⟩ := hk e (by rw [Array.getElem?_eq_some_iff] at he; obtain ⟨h1, h2⟩ := he; rw [← h2]; exact Array.getElem_mem h1)
  exact hn _ _ hs
theorem RowAt.part {w : World} {l : Led} {v : Value} {r : RowD} (h : RowAt w l v r) : RowAt w (rowsOf l) v r := by
  cases h with
  | cut h => exact .cut (rowsOf_tup h)
  | call h => exact .call (rowsOf_tup h)
  | glist h k => exact .glist (rowsOf_tup h) (rowsOf_tup k)
  | proceed h => exact .proceed (rowsOf_tup h)
  | execute h => exact .execute (rowsOf_tup h)
  | fail h => exact .fail (rowsOf_tup h)
  | halt h => exact .halt (rowsOf_tup h)
  | mcall h => exact .mcall (rowsOf_tup h)
  | cfail h => exact .cfail (rowsOf_tup h)
  | dyn h => exact .dyn (rowsOf_tup h)
  | tryR h => exact .tryR (rowsOf_tup h)
  | retry h => exact .retry (rowsOf_tup h)
  | trust h => exact .trust (rowsOf_tup h)
  | sot h => exact .sot (rowsOf_tup h)
  | sos h k e lo =>
    refine .sos (rowsOf_tup h) (rowsOf_mem k (.inr ?_)) e lo
    obtain ⟨es, ep, hc, hdat, hk, hp, hn⟩ := id e
    have hl := hp.length
    have hsz : es.toList.length = 1 := by simpa using hl
    have hlt : 0 < es.size := by rw [← Array.length_toList, hsz]; exact Nat.one_pos
    refine ⟨es, ep, es[0], hdat, by simp [hlt], fun x t q => ?_⟩
    obtain ⟨hkey, _⟩ := hp.get? (i := 0) (e := es[0]) (by rw [Array.getElem?_toList]; simp [hlt]) (k := 30) rfl
    obtain ⟨tk, hk2⟩ := Value.isInt_shape hkey
    rw [hk2] at q
    cases q
  | soc h T =>
    refine .soc (rowsOf_tup h) ?_
    obtain ⟨lo, o, es, ep, xs, hm, hc, hdat, he, hn, hk, hf⟩ := id T
    refine ⟨lo, o, es, ep, xs, rowsOf_mem hm (.inr ?_), hc, hdat, he, hn, fun x hx => ?_, hf⟩
    · have hl := hf.length
      have hxl : xs.length = 2 := by simp [kvsOf] at hl; omega
      have hsz : es.toList.length = 2 := by rw [he, List.length_map, hxl]
      have hlt : 0 < es.size := by rw [← Array.length_toList, hsz]; exact Nat.two_pos
      refine ⟨es, ep, es[0], hdat, by simp [hlt], fun x t q => ?_⟩
      have h0 : es.toList[0]? = some es[0] := by rw [Array.getElem?_toList]; simp [hlt]
      rw [he] at h0
      match xs, hxl with
      | a :: b, _ =>
        have e1 : _ = es[0] := Option.some.inj h0
        rw [← e1] at q
        cases q
    · obtain ⟨ok, h1, h2⟩ := hk x hx
      obtain ⟨hcl, items, n, hda, hi⟩ := id h2
      exact ⟨ok, rowsOf_mem h1 (.inl ⟨hcl, _, _, hda⟩), h2⟩
  | push h => exact .push (rowsOf_tup h)
theorem off3_cons {I C D : Addr} {p : Addr × Obj} {l : Led} (h : p.1 ≠ I ∧ p.1 ≠ C ∧ p.1 ≠ D) (r : LCg.Off3 I C D l) : LCg.Off3 I C D (p :: l) := ⟨h, r⟩
theorem rowish_ne {h₀ h : Heap} {L : Addr} {l : Led} (N : News h₀ L h l) {a : Addr} {o : Obj} (hm : (a, o) ∈ l) (ho : ¬ Rowish o) {ls : Led} (hs : ∀ p ∈ ls, p ∈ l) (hr : ∀ p ∈ ls, Rowish p.2) : ∀ p ∈ ls, p.1 ≠ a := fun p hp => rowsOf_ne N hm ho p (rowsOf_mem (hs p hp) (hr p hp))
end Mine
end
namespace Mine
theorem RowsAt.part {w : World} {l : Led} {vs : List Value} {rs : List RowD} (h : RowsAt w l vs rs) : RowsAt w (rowsOf l) vs rs :=
  ⟨h.1, fun i r hr => let ⟨v, hv, hw⟩ := h.2 i r hr; ⟨v, hv, hw.part⟩⟩
theorem RowsAt.init {w : World} {l : Led} {vs : List Value} {rs : List RowD} {v : Value} {r : RowD} (h : RowsAt w l (vs ++ [v]) (rs ++ [r])) : RowsAt w l vs rs := by
  have hl : vs.length = rs.length := by have := h.1; simpa using this
  refine ⟨hl, fun i q hq => ?_⟩
  have hi := (List.getElem?_eq_some_iff.mp hq).1
  obtain ⟨u, hu, hw⟩ := h.2 i q (by rw [List.getElem?_append_left hi]; exact hq)
  rw [List.getElem?_append_left (by omega)] at hu
  exact ⟨u, hu, hw⟩
theorem snoc_of {α : Type} {l : List α} {n : Nat} (h : l.length = n + 1) : ∃ a x, l = a ++ [x] ∧ a.length = n := by
  have h0 : l ≠ [] := fun q => by rw [q] at h; cases h
  exact ⟨l.dropLast, l.getLast h0, (List.dropLast_concat_getLast h0).symm, by rw [List.length_dropLast]; omega⟩
theorem setL_last {v x : Value} : ∀ {l : List Value}, ki_setL (l ++ [x]) l.length v = some (l ++ [v])
  | [] => rfl
  | y :: r => by show (match ki_setL (r ++ [x]) r.length v with | some q => some (y :: q) | none => none) = _; rw [setL_last]; rfl
theorem last_index {n : Nat} : seqIndex? (-1) (n + 1) = some n := by
  have e : seqIndex? (-1) (n + 1) = (if (decide ((0 : Int) ≤ -1 + ((n + 1 : Nat) : Int)) && decide (-1 + ((n + 1 : Nat) : Int) < ((n + 1 : Nat) : Int))) = true then some (-1 + ((n + 1 : Nat) : Int)).toNat else none) := rfl
  rw [e, if_pos (by simp only [Bool.and_eq_true, decide_eq_true_eq]; omega)]
  congr 1
  omega
def NextAnd (R : Shared → Prop) (f : Flow) (s' : Shared) : Prop := f = .next ∧ R s'
theorem join_stmt {M : Model} {A : Around} {E : Value → Shared → Prop} {s : Shared} {st : Stmt} {env : Env} {Q : Flow → Shared → Prop} (R : Shared → Prop) (h : wpAny M A (exec st env) (NextAnd R) E s) (k : ∀ s', R s' → Q .next s') : wpAny M A (exec st env) Q E s :=
  wpAny_mono h (fun _ s' ⟨hf, hr⟩ => hf ▸ k s' hr) fun _ _ e => e
/-- the law's state when the rows are there -/
def LawRows (w : World) (s1 : Shared) (g : Heap) (Lg D f : Addr) (m : Str → Option Value) (cells : Led) (low : Int) (n : Nat) (s' : Shared) : Prop :=
  ∃ h9 tk9 ys ls rs fq k, s' = { s1 with heap := h9, toks := tk9 } ∧ Fr g Lg h9 m ∧ News g Lg h9 ((D, listOf ys.toArray k) :: (f, fq) :: (cells ++ ls)) ∧ Figs fq ∧ (∀ p ∈ ls, Rowish p.2) ∧ RowsAt w ls ys rs ∧ rs.length = n ∧ (∀ r ∈ rs, ∀ q ∈ r.goals, OkG low n q)
theorem set_last {prog : Program} {w : World} {A : Around} {E : Value → Shared → Prop} {s : Shared} {h₀ : Heap} {L D : Addr} {m : Str → Option Value} {news news' : Led} {zs : List Value} {z v : Value} {n : Nat} {t : Tok} {Q : Unit → Shared → Prop}
    (F : Fr h₀ L s.heap m) (N : News h₀ L s.heap news) (U : Upd D (listOf (zs ++ [z]).toArray n) (listOf (zs ++ [v]).toArray n) news news')
    (h : ∀ h', Fr h₀ L h' m → News h₀ L h' news' → Q () { s with heap := h' }) : wpAny (model prog w) A (setItem (.ref D) (.int (-1) t) v) Q E s :=
  ki_setNeg F N (by decide) (by decide) (j := zs.length) (by rw [List.size_toArray, List.length_append]; exact last_index) (by rw [List.toList_toArray]; exact setL_last) U h
theorem lawRows_set {w : World} {s1 : Shared} {g : Heap} {Lg D f a : Addr} {m : Str → Option Value} {cells ls : Led} {low : Int} {n : Nat} {h9 : Heap} {tk9 : Nat} {zs : List Value} {z : Value} {qs : List RowD} {q : RowD} {fq : Obj} {k j : Nat} {t : Tok}
    (F : Fr g Lg h9 m) (N : News g Lg h9 ((a, tupO [S "proceed" t] j) :: (D, listOf (zs ++ [Value.ref a]).toArray k) :: (f, fq) :: (cells ++ ls))) (hf : Figs fq) (hi : ∀ p ∈ ls, Rowish p.2) (hr : RowsAt w ls (zs ++ [z]) (qs ++ [q])) (hl : (qs ++ [q]).length = n) (hg : ∀ r ∈ qs ++ [q], ∀ x ∈ r.goals, OkG low n x) :
    LawRows w s1 g Lg D f m cells low n { s1 with heap := h9, toks := tk9 } := by
  refine ⟨h9, tk9, zs ++ [Value.ref a], (a, tupO [S "proceed" t] j) :: ls, qs ++ [.proceed], fq, k, rfl, F, fun p hp => ?_, hf, ?_, ?_, ?_, ?_⟩
  · rcases List.mem_cons.mp hp with rfl | hp
    · exact N _ (.tail _ (.head _))
    rcases List.mem_cons.mp hp with rfl | hp
    · exact N _ (.tail _ (.tail _ (.head _)))
    rcases List.mem_append.mp hp with hp | hp
    · exact N _ (.tail _ (.tail _ (.tail _ (List.mem_append_left _ hp))))
    rcases List.mem_cons.mp hp with rfl | hp
    · exact N _ (.head _)
    · exact N _ (.tail _ (.tail _ (.tail _ (List.mem_append_right _ hp))))
  · intro p hp
    rcases List.mem_cons.mp hp with rfl | hp
    · exact .inl ⟨rfl, _, _, rfl⟩
    · exact hi p hp
  · exact RowsAt.push (RowsAt.mono hr.init fun p hp => .tail _ hp) (.proceed (.head _))
  · rw [← hl, List.length_append, List.length_append]; rfl
  · intro r hr' x hx
    rcases List.mem_append.mp hr' with h | h
    · exact hg r (List.mem_append_left _ h) x hx
    · rw [List.mem_singleton.mp h] at hx; cases hx
theorem nd3 {low : Int} {n : Nat} (h : 4 ≤ low) : [2, low - 1, low + (n : Int)].Nodup := by
  simp only [List.nodup_cons, List.mem_cons, List.not_mem_nil, or_false, not_or, not_false_eq_true, List.nodup_nil, and_true]
  omega
theorem Dict_stop1 {M : Model} {A : Around} {E : Value → Shared → Prop} {s : Shared} {env : Env} {ks : List (Option PySem.Expr)} {vs : List PySem.Expr} {pos : Pos} {Q : Value → Shared → Prop}
    (h : Stop (wpAny M A (eval (.Dict ks vs pos) env) Q E s)) : wpAny M A (eval (.Dict ks vs pos) env) Q E s := h.out
theorem grab_own {M : Model} {A : Around} {E : Value → Shared → Prop} {s : Shared} {sts : List Stmt} {env : Env} {Q : Flow → Shared → Prop} (h : PassesOwn M A env E) (k : PassesOwn M A env E → wpAny M A (execs sts env) Q E s) : wpAny M A (execs sts env) Q E s := k h
end Mine
namespace Mine
theorem SpecT.use {w : World} {k : Nat} {f : Addr} {args : List Value} {news : Led} {post : Value → Led → Prop} (C : SpecT w k f args news post)
    {mean : ExcName → Option Value} {mg mb : Str → Option Value} {dp un : Nat} {gd : Option (List Code)} {cn : Str} {cs : Scope} {a : Addr} {ccd : Value} {cl : List (Str × Addr)} {A₀ : Around} {base h₀ : Heap} {L : Addr} {m : Str → Option Value} {s : Shared} {Q E : Value → Shared → Prop}
    {news₀ : Led} (B : Below A₀ base [] h₀) (F : Fr h₀ L s.heap m) (X : (HD.heap_39 w.params).In h₀) (XB : (HD.heap_39 w.params).In base) (N : News h₀ L s.heap news₀) (T : Top HD.view_39 (looseW HD.view_39 [Str.ofString "LinkFault"]) mean mg mb h₀) (TB : Top HD.view_39 (looseW HD.view_39 [Str.ofString "LinkFault"]) mean mg mb base) (hk : cs.kind = .function)
    (hs : ∀ p ∈ news, p ∈ news₀) (hd : dp + k < recursionLimit) (hu : un + 100 * k < cLine)
    (ret : ∀ r news' h' tk', Fr h₀ L h' m → News h₀ L h' news' → post r news' → Q r { s with heap := h', toks := tk' }) :
    wpAny (model PG w) (ktrTop dp un gd cn cs L a ccd cl []) (call (.ref f) args) Q E s :=
  C _ _ _ _ _ _ _ _ _ _ _ _ _ _ _ _ _ _ _ B F X XB (fun p hp => N p (hs p hp)) T TB hk hd hu ret
/-- what a place of `reached` holds -/
def RV (l : Led) (rs : List RowD) (low k : Int) (v : Value) : Prop :=
  (v = .none ∧ Faulty rs low k) ∨ ∃ a vs c ms, v = .ref a ∧ (a, listOf vs.toArray c) ∈ l ∧ IntsAre vs ms ∧ ms.Pairwise (· < ·) ∧ (∀ x, x ∈ ms ↔ Reach rs low k x) ∧ ¬ Faulty rs low k
theorem RV.mono {l l' : Led} {rs : List RowD} {low k : Int} {v : Value} (hs : ∀ p ∈ l, p ∈ l') (h : RV l rs low k v) : RV l' rs low k v := by
  rcases h with h | ⟨a, vs, c, ms, e, hm, r⟩
  · exact .inl h
  · exact .inr ⟨a, vs, c, ms, e, hs _ hm, r⟩
theorem no_reach {rs : List RowD} {low s : Int} (h : rowAt rs low s = none) : ∀ a, ¬ Reach rs low s a := by
  intro a ha
  induction ha with
  | start hr => rw [h] at hr; cases hr
  | goal _ _ _ _ ih => exact ih
  | next _ _ _ _ ih => exact ih
theorem RV.empty {l : Led} {rs : List RowD} {low k : Int} {a : Addr} {c : Nat} (h : rowAt rs low k = none) (hm : (a, listOf #[] c) ∈ l) : RV l rs low k (.ref a) :=
  .inr ⟨a, [], c, [], rfl, hm, .nil, .nil, (fun x => ⟨(fun q => nomatch q), fun q => absurd q (no_reach h x)⟩), fun ⟨b, r, hb, _⟩ => no_reach h b hb⟩
theorem reached_led {h₀ h : Heap} {L : Addr} {l pre ls2 own : Led} {rs : List RowD} {low st : Int} {x : Value} {bad : List Addr} (R : Reached (pre ++ (ls2 ++ own)) rs low st x l) (N : News h₀ L h l)
    (hb : ∀ b ∈ bad, ∃ o, (b, o) ∈ pre) (hls : ∀ p ∈ ls2, p.1 ∉ bad) (hown : OwnOff own ((pre ++ ls2).map (·.1))) :
    ∃ ls3, (∀ p ∈ ls2, p ∈ ls3) ∧ RV ls3 rs low st x ∧ (∀ p ∈ ls3, p.1 ∉ bad) ∧ News h₀ L h (pre ++ (ls3 ++ own)) ∧ OwnOff own ((pre ++ ls3).map (·.1)) := by
  rcases R with ⟨rfl, hf, hs⟩ | ⟨ms, ⟨a, vs, c, rfl, hm, hi, hs, hlt⟩, hp, hr, hf⟩
  · exact ⟨ls2, (fun p hp => hp), .inl ⟨rfl, hf⟩, hls, (fun p hp => N p (hs p hp)), hown⟩
  · refine ⟨(a, listOf vs.toArray c) :: ls2, (fun p hp => .tail _ hp), .inr ⟨a, vs, c, ms, rfl, .head _, hi, hp, hr, hf⟩, ?_, ?_, ?_⟩
    · intro p hp
      rcases List.mem_cons.mp hp with rfl | hp
      · intro hq
        obtain ⟨o, ho⟩ := hb _ hq
        exact Nat.lt_irrefl _ (hlt _ (List.mem_append_left _ ho))
      · exact hls p hp
    · intro p hp
      rcases List.mem_append.mp hp with hp | hp
      · exact N p (hs p (List.mem_append_left _ hp))
      rcases List.mem_cons.mp hp with rfl | hp
      · exact N _ hm
      · exact N p (hs p (List.mem_append_right _ hp))
    · intro p hp b hb
      rw [List.map_append, List.mem_append] at hb
      rcases hb with hb | hb
      · exact hown p hp b (by rw [List.map_append, List.mem_append]; exact .inl hb)
      · rw [List.map_cons, List.mem_cons] at hb
        rcases hb with rfl | hb
        · exact Nat.ne_of_lt (hlt p (List.mem_append_right _ (List.mem_append_right _ hp)))
        · exact hown p hp b (by rw [List.map_append, List.mem_append]; exact .inr hb)
/-- the table `reached` after i turns -/
def Tab (w : World) (l : Led) (rs : List RowD) (low : Int) (n i : Nat) (od : Obj) : Prop :=
  ∃ kvs, od.IsDictOf (intKind PG w) kvs ∧ kvs.map (·.1) = [2, low - 1, low + (n : Int)] ++ (List.range i).map (fun j : Nat => low + (j : Int)) ∧ ∀ kv ∈ kvs, RV l rs low kv.1 kv.2
theorem Tab.mono {w : World} {l l' : Led} {rs : List RowD} {low : Int} {n i : Nat} {od : Obj} (hs : ∀ p ∈ l, p ∈ l') (h : Tab w l rs low n i od) : Tab w l' rs low n i od :=
  let ⟨kvs, a, b, c⟩ := h; ⟨kvs, a, b, fun kv hkv => (c kv hkv).mono hs⟩
theorem Tab.init {w : World} {l : Led} {rs : List RowD} {low : Int} {n : Nat} {od : Obj} {a1 a2 a3 : Addr} {c1 c2 c3 : Nat} (h4 : 4 ≤ low) (hn : rs.length = n) (hd : od.IsDictOf (intKind PG w) [(2, .ref a1), (low - 1, .ref a2), (low + (n : Int), .ref a3)])
    (m1 : (a1, listOf #[] c1) ∈ l) (m2 : (a2, listOf #[] c2) ∈ l) (m3 : (a3, listOf #[] c3) ∈ l) : Tab w l rs low n 0 od := by
  refine ⟨_, hd, by simp, fun kv hkv => ?_⟩
  simp only [List.mem_cons, List.not_mem_nil, or_false] at hkv
  have none : ∀ k : Int, (k < low ∨ low + rs.length ≤ k) → rowAt rs low k = none := fun k hk => row_none fun q => by omega
  rcases hkv with rfl | rfl | rfl
  · exact RV.empty (none _ (.inl (by show (2 : Int) < low; omega))) m1
  · exact RV.empty (none _ (.inl (by show low - 1 < low; omega))) m2
  · exact RV.empty (none _ (.inr (by show low + (rs.length : Int) ≤ low + (n : Int); omega))) m3
theorem key_new {kvs : List (Int × Value)} {low : Int} {n i : Nat} (h4 : 4 ≤ low) (hi : i < n) (hk : kvs.map (·.1) = [2, low - 1, low + (n : Int)] ++ (List.range i).map (fun j : Nat => low + (j : Int))) : low + (i : Int) ∉ kvs.map (·.1) := by
  rw [hk]
  intro h
  simp only [List.mem_append, List.mem_cons, List.not_mem_nil, or_false, List.mem_map, List.mem_range] at h
  rcases h with (h | h | h) | ⟨j, hj, h⟩ <;> omega
theorem Tab.step {w : World} {l : Led} {rs : List RowD} {low : Int} {n i : Nat} {od : Obj} {kvs : List (Int × Value)} {v : Value} (h4 : 4 ≤ low) (hi : i < n) (hk : kvs.map (·.1) = [2, low - 1, low + (n : Int)] ++ (List.range i).map (fun j : Nat => low + (j : Int))) (hr : ∀ kv ∈ kvs, RV l rs low kv.1 kv.2)
    (hd : od.IsDictOf (intKind PG w) (stored kvs (low + (i : Int)) v)) (hv : RV l rs low (low + (i : Int)) v) : Tab w l rs low n (i + 1) od := by
  rw [stored_absent (valueAt_none_of_not_mem (key_new h4 hi hk))] at hd
  refine ⟨_, hd, ?_, fun kv hkv => ?_⟩
  · rw [List.map_append, hk, List.range_succ, List.map_append, List.append_assoc]
    rfl
  · rcases List.mem_append.mp hkv with h | h
    · exact hr kv h
    · rw [List.mem_singleton.mp h]; exact hv
theorem Tab.len {kvs : List (Int × Value)} {low : Int} {n i : Nat} (hk : kvs.map (·.1) = [2, low - 1, low + (n : Int)] ++ (List.range i).map (fun j : Nat => low + (j : Int))) : kvs.length = 3 + i := by
  have := congrArg List.length hk
  simp at this
  omega
theorem sorted_eq : ∀ {l l' : List Int}, l.Perm l' → l.Pairwise (· ≤ ·) → l'.Pairwise (· ≤ ·) → l = l'
  | [], l', h, _, _ => (List.nil_perm.mp h).symm
  | a :: r, [], h, _, _ => absurd h.length_eq (by simp)
  | a :: r, b :: q, h, h1, h2 => by
    have ha : a ∈ b :: q := h.mem_iff.mp (.head _)
    have hb : b ∈ a :: r := h.mem_iff.mpr (.head _)
    obtain ⟨x1, x2⟩ := List.pairwise_cons.mp h1
    obtain ⟨y1, y2⟩ := List.pairwise_cons.mp h2
    have e : a = b := by
      rcases List.mem_cons.mp ha with e | ha
      · exact e
      rcases List.mem_cons.mp hb with e | hb
      · exact e.symm
      have := x1 b hb
      have := y1 a ha
      omega
    subst e
    rw [sorted_eq (List.perm_cons a |>.mp h) x2 y2]
theorem strict_eq {l l' : List Int} (h1 : l.Pairwise (· < ·)) (h2 : l'.Pairwise (· < ·)) (h : ∀ x, x ∈ l ↔ x ∈ l') : l = l' := by
  have nd : ∀ {l : List Int}, l.Pairwise (· < ·) → l.Nodup := fun h => h.imp fun {a b} q => by omega
  have le : ∀ {l : List Int}, l.Pairwise (· < ·) → l.Pairwise (· ≤ ·) := fun h => h.imp fun {a b} q => by omega
  exact sorted_eq ((List.perm_ext_iff_of_nodup (nd h1) (nd h2)).mpr h) (le h1) (le h2)
/-- the rows that can come next -/
def nextsOf (r : RowD) (low : Int) (i : Nat) : List Int := r.goals ++ if r.falls = true then [low + (i : Int) + 1] else []
theorem nextsOf_le (r : RowD) (low : Int) (i : Nat) : (nextsOf r low i).length ≤ 5 := by
  have := goals_le r
  unfold nextsOf
  rw [List.length_append]
  split <;> simp <;> omega
def fineOf (r : RowD) (i n : Nat) : Bool := !r.falls || decide (i + 1 < n)
/-- the law's state when the nexts are there -/
def LawNexts (w : World) (s1 : Shared) (g : Heap) (Lg bn : Addr) (vars : List (Str × Value)) (rest : Led) (r : RowD) (low : Int) (i n : Nat) (s' : Shared) : Prop :=
  ∃ h9 tk9 m9 us c, s' = { s1 with heap := h9, toks := tk9 } ∧ Fr g Lg h9 m9 ∧ Vars m9 ((Str.ofString "nexts", .ref bn) :: (Str.ofString "fine", .bool (fineOf r i n)) :: vars) ∧ News g Lg h9 ((bn, listOf us.toArray c) :: rest) ∧ IntsAre us (nextsOf r low i)
theorem fine_f {r : RowD} {i n : Nat} (h : r.falls = false) : fineOf r i n = true := by unfold fineOf; rw [h]; rfl
theorem fine_t {r : RowD} {i n : Nat} (h : r.falls = true) : fineOf r i n = decide ((i : Int) + 1 < (n : Int)) := by
  unfold fineOf
  rw [h, Bool.not_true, Bool.false_or]
  exact decide_eq_decide.mpr (by omega)
theorem nexts_f {r : RowD} {low : Int} {i : Nat} (h : r.falls = false) : nextsOf r low i = r.goals := by unfold nextsOf; rw [h, if_neg (by decide), List.append_nil]
theorem nexts_t {r : RowD} {low : Int} {i : Nat} (h : r.falls = true) : nextsOf r low i = r.goals ++ [low + (i : Int) + 1] := by unfold nextsOf; rw [if_pos h]
theorem some_bool {a b : Bool} (h : a = b) : some (Value.bool a) = some (Value.bool b) := by rw [h]
end Mine
namespace Mine
theorem rowAt_nat {rs : List RowD} {low : Int} {i : Nat} : rowAt rs low (low + (i : Int)) = rs[i]? := by
  unfold rowAt
  rw [if_pos (by omega), show (low + (i : Int) - low).toNat = i by omega]
section
variable {rs : List RowD} {low : Int} {i : Nat} {r : RowD}
theorem reach_into {q x : Int} (hri : rs[i]? = some r) (hq : q ∈ nextsOf r low i) (h : Reach rs low q x) : Reach rs low (low + (i : Int)) x := by
  have h0 : rowAt rs low (low + (i : Int)) = some r := rowAt_nat.trans hri
  induction h with
  | start hr =>
    rcases List.mem_append.mp hq with hg | hg
    · exact .goal (.start h0) h0 hg hr
    · split at hg
      · rw [List.mem_singleton.mp hg] at hr ⊢
        exact .next (.start h0) h0 (by assumption) hr
      · cases hg
  | goal _ a b c ih => exact .goal ih a b c
  | next _ a b c ih => exact .next ih a b c
theorem reach_eq {x : Int} (hri : rs[i]? = some r) : Reach rs low (low + (i : Int)) x ↔ x = low + (i : Int) ∨ ∃ q ∈ nextsOf r low i, Reach rs low q x := by
  have h0 : rowAt rs low (low + (i : Int)) = some r := rowAt_nat.trans hri
  constructor
  · intro h
    induction h with
    | start _ => exact .inl rfl
    | @goal a b r' q' ha hr hb hq ih =>
      rcases ih with rfl | ⟨q, hq1, hq2⟩
      · rw [h0] at hr
        cases hr
        exact .inr ⟨b, List.mem_append_left _ hb, .start hq⟩
      · exact .inr ⟨q, hq1, .goal hq2 hr hb hq⟩
    | @next a r' q' ha hr hb hq ih =>
      rcases ih with rfl | ⟨q, hq1, hq2⟩
      · rw [h0] at hr
        cases hr
        exact .inr ⟨_, List.mem_append_right _ (by rw [if_pos hb]; exact .head _), .start hq⟩
      · exact .inr ⟨q, hq1, .next hq2 hr hb hq⟩
  · rintro (rfl | ⟨q, hq, hx⟩)
    · exact .start h0
    · exact reach_into hri hq hx
theorem faulty_eq (hri : rs[i]? = some r) : ¬ Faulty rs low (low + (i : Int)) ↔ fineOf r i rs.length = true ∧ ∀ q ∈ nextsOf r low i, ¬ Faulty rs low q := by
  have h0 : rowAt rs low (low + (i : Int)) = some r := rowAt_nat.trans hri
  have hi : i < rs.length := (List.getElem?_eq_some_iff.mp hri).1
  constructor
  · intro h
    refine ⟨?_, fun q hq ⟨a, r', ha, hr, hf, he⟩ => h ⟨a, r', reach_into hri hq ha, hr, hf, he⟩⟩
    cases hfl : r.falls with
    | false => exact fine_f hfl
    | true =>
      rw [fine_t hfl]
      refine decide_eq_true ?_
      false_or_by_contra
      exact h ⟨_, r, .start h0, h0, hfl, by omega⟩
  · rintro ⟨hf, hq⟩ ⟨a, r', ha, hr, hfl, he⟩
    rcases (reach_eq hri).mp ha with rfl | ⟨q, h1, h2⟩
    · rw [h0] at hr
      cases hr
      rw [fine_t hfl] at hf
      have := of_decide_eq_true hf
      omega
    · exact hq q h1 ⟨a, r', h2, hr, hfl, he⟩
theorem nexts_ok {n : Nat} {q : Int} (hi : i < n) (hg : ∀ g ∈ r.goals, OkG low n g) (hq : q ∈ nextsOf r low i) : OkG low n q := by
  rcases List.mem_append.mp hq with h | h
  · exact hg q h
  · split at h
    · rw [List.mem_singleton.mp h]; exact .inr ⟨by omega, by omega⟩
    · cases h
end
/-- what is due after j of the nexts -/
structure DueInv (rs : List RowD) (low : Int) (i n : Nat) (r : RowD) (nx : List Int) (K : List Int) (fb : Bool) : Prop where
  mem : ∀ x, x ∈ K ↔ x = low + (i : Int) ∨ ∃ q ∈ nx, ¬ Faulty rs low q ∧ Reach rs low q x
  fine : fb = true ↔ fineOf r i n = true ∧ ∀ q ∈ nx, ¬ Faulty rs low q
theorem DueInv.init {rs : List RowD} {low : Int} {i n : Nat} {r : RowD} : DueInv rs low i n r [] [low + (i : Int)] (fineOf r i n) :=
  ⟨fun x => by simp, by simp⟩
theorem DueInv.bad {rs : List RowD} {low : Int} {i n : Nat} {r : RowD} {nx K : List Int} {fb : Bool} {q : Int} (h : DueInv rs low i n r nx K fb) (hq : Faulty rs low q) : DueInv rs low i n r (nx ++ [q]) K false := by
  refine ⟨fun x => ?_, ?_⟩
  · rw [h.mem]
    constructor
    · rintro (e | ⟨p, hp, a⟩)
      · exact .inl e
      · exact .inr ⟨p, List.mem_append_left _ hp, a⟩
    · rintro (e | ⟨p, hp, a, b⟩)
      · exact .inl e
      · rcases List.mem_append.mp hp with hp | hp
        · exact .inr ⟨p, hp, a, b⟩
        · rw [List.mem_singleton.mp hp] at a
          exact absurd hq a
  · simp only [Bool.false_eq_true, false_iff, not_and]
    intro _ hx
    exact hx q (List.mem_append_right _ (.head _)) hq
theorem DueInv.good {rs : List RowD} {low : Int} {i n : Nat} {r : RowD} {nx K K' ms : List Int} {fb : Bool} {q : Int} (h : DueInv rs low i n r nx K fb) (hq : ¬ Faulty rs low q) (hm : ∀ x, x ∈ ms ↔ Reach rs low q x) (hK : ∀ x, x ∈ K' ↔ x ∈ K ∨ x ∈ ms) : DueInv rs low i n r (nx ++ [q]) K' fb := by
  refine ⟨fun x => ?_, ?_⟩
  · rw [hK, h.mem, hm]
    constructor
    · rintro ((e | ⟨p, hp, a⟩) | e)
      · exact .inl e
      · exact .inr ⟨p, List.mem_append_left _ hp, a⟩
      · exact .inr ⟨q, List.mem_append_right _ (.head _), hq, e⟩
    · rintro (e | ⟨p, hp, a, b⟩)
      · exact .inl (.inl e)
      · rcases List.mem_append.mp hp with hp | hp
        · exact .inl (.inr ⟨p, hp, a, b⟩)
        · rw [List.mem_singleton.mp hp] at b
          exact .inr b
  · rw [h.fine]
    constructor
    · rintro ⟨a, b⟩
      refine ⟨a, fun p hp => ?_⟩
      rcases List.mem_append.mp hp with hp | hp
      · exact b p hp
      · rw [List.mem_singleton.mp hp]; exact hq
    · rintro ⟨a, b⟩
      exact ⟨a, fun p hp => b p (List.mem_append_left _ hp)⟩
/-- the keys are rows' addresses -/
theorem DueInv.row {rs : List RowD} {low : Int} {i n : Nat} {r : RowD} {nx K : List Int} {fb : Bool} (h : DueInv rs low i n r nx K fb) (hi : i < rs.length) : ∀ x ∈ K, low ≤ x ∧ x < low + rs.length := by
  intro x hx
  rcases (h.mem x).mp hx with rfl | ⟨q, _, _, hq⟩
  · omega
  · obtain ⟨r', hr'⟩ := hq.row
    exact rowAt_in hr'
theorem stored_keys {kvs : List (Int × Value)} {k : Int} {v : Value} (x : Int) : x ∈ (stored kvs k v).map (·.1) ↔ x ∈ kvs.map (·.1) ∨ x = k := by
  by_cases hk : k ∈ kvs.map (·.1)
  · have : (stored kvs k v).map (·.1) = kvs.map (·.1) := by
      rw [stored, if_pos (by
        rw [List.any_eq_true]
        obtain ⟨kv, h1, h2⟩ := List.mem_map.mp hk
        exact ⟨kv, h1, by simpa using h2⟩), keys_map_store]
    rw [this]
    constructor
    · exact .inl
    · rintro (h | rfl)
      · exact h
      · exact hk
  · rw [stored_absent (valueAt_none_of_not_mem hk), List.map_append, List.mem_append]
    simp
theorem dict_nodup {w : World} {o : Obj} {kvs : List (Int × Value)} (h : o.IsDictOf (intKind PG w) kvs) : (kvs.map (·.1)).Nodup := let ⟨_, _, _, _, _, _, hn⟩ := h; hn
theorem Tab.get {w : World} {l : Led} {rs : List RowD} {low : Int} {n : Nat} {kvs : List (Int × Value)} {q : Int} (hk : kvs.map (·.1) = [2, low - 1, low + (n : Int)] ++ (List.range n).map (fun j : Nat => low + (j : Int))) (hr : ∀ kv ∈ kvs, RV l rs low kv.1 kv.2) (hq : OkG low n q) :
    ∃ v, valueAt kvs q = some v ∧ RV l rs low q v := by
  have hm : q ∈ kvs.map (·.1) := by
    rw [hk]
    rcases hq with rfl | ⟨h1, h2⟩
    · simp
    · by_cases e1 : q = low - 1
      · rw [e1]; simp
      by_cases e2 : q = low + (n : Int)
      · rw [e2]; simp
      refine List.mem_append_right _ (List.mem_map.mpr ⟨(q - low).toNat, List.mem_range.mpr (by omega), by omega⟩)
  have : ∃ v, (q, v) ∈ kvs ∧ valueAt kvs q = some v := by
    clear hk hr hq
    induction kvs with
    | nil => cases hm
    | cons a r ih =>
      by_cases e : a.1 = q
      · exact ⟨a.2, by rw [← e]; exact .head _, by simp [valueAt, e]⟩
      · rw [List.map_cons, List.mem_cons] at hm
        obtain ⟨v, h1, h2⟩ := ih (hm.resolve_left fun x => e x.symm)
        refine ⟨v, .tail _ h1, ?_⟩
        unfold valueAt at h2 ⊢
        rw [List.find?_cons_of_neg (by simp [e])]
        exact h2
  obtain ⟨v, h1, h2⟩ := this
  exact ⟨v, h2, hr _ h1⟩
theorem stored_len {kvs : List (Int × Value)} {k : Int} {v : Value} : (stored kvs k v).length ≤ kvs.length + 1 := by
  unfold stored
  split
  · rw [List.length_map]; exact Nat.le_succ _
  · rw [List.length_append]; exact Nat.le_refl _
theorem DueInv.len {w : World} {o : Obj} {kvs : List (Int × Value)} {rs : List RowD} {low : Int} {i n : Nat} {r : RowD} {nx : List Int} {fb : Bool} (hd : o.IsDictOf (intKind PG w) kvs) (h : DueInv rs low i n r nx (kvs.map (·.1)) fb) (hi : i < rs.length) : kvs.length ≤ rs.length := by
  have := nodup_le (dict_nodup hd) (h.row hi)
  rwa [List.length_map] at this
theorem ms_len {rs : List RowD} {low q : Int} {ms : List Int} (hp : ms.Pairwise (· < ·)) (hm : ∀ x, x ∈ ms ↔ Reach rs low q x) : ms.length ≤ rs.length := by
  refine nodup_le (n := rs.length) (low := low) (hp.imp fun {a b} q => by omega) fun a ha => ?_
  obtain ⟨r', hr'⟩ := ((hm a).mp ha).row
  exact rowAt_in hr'
end Mine
namespace Mine
section
variable {rs qs : List RowD} {low st : Int} {ms : List Int}
/-- the rows that are not reached are put otherwise -/
def Others (rs qs : List RowD) (low : Int) (ms : List Int) (j : Nat) : Prop := qs.length = j ∧ ∀ (k : Nat) (r : RowD), k < j → rs[k]? = some r → qs[k]? = some (if low + (k : Int) ∈ ms then r else .push)
theorem Others.nil : Others rs [] low ms 0 := ⟨rfl, fun k r h => absurd h (Nat.not_lt_zero k)⟩
theorem Others.snoc {j : Nat} {r r' : RowD} (h : Others rs qs low ms j) (hr : rs[j]? = some r) (hr' : r' = if low + (j : Int) ∈ ms then r else .push) : Others rs (qs ++ [r']) low ms (j + 1) := by
  refine ⟨by rw [List.length_append, h.1]; rfl, fun k q hk hq => ?_⟩
  by_cases e : k < j
  · rw [List.getElem?_append_left (by rw [h.1]; exact e)]
    exact h.2 k q e hq
  · obtain rfl : k = j := by omega
    rw [hr] at hq
    cases hq
    rw [List.getElem?_append_right (by rw [h.1]; exact Nat.le_refl _), h.1, Nat.sub_self, hr']
    rfl
theorem others_at {a : Int} {r : RowD} (h : Others rs qs low ms rs.length) (hr : rowAt rs low a = some r) (ha : a ∈ ms) : rowAt qs low a = some r := by
  have h1 := rowAt_in hr
  obtain ⟨k, rfl⟩ : ∃ k : Nat, a = low + (k : Int) := ⟨(a - low).toNat, by omega⟩
  rw [rowAt_nat] at hr ⊢
  rw [h.2 k r (by omega) hr, if_pos ha]
theorem others_some {a : Int} {r : RowD} (h : Others rs qs low ms rs.length) (hr : rowAt rs low a = some r) : ∃ q, rowAt qs low a = some q := by
  have h1 := rowAt_in hr
  exact rowAt_some h1.1 (by rw [h.1]; exact h1.2)
theorem others_back {a : Int} {q : RowD} (h : Others rs qs low ms rs.length) (hr : rowAt qs low a = some q) : ∃ r, rowAt rs low a = some r := by
  have h1 := rowAt_in hr
  rw [h.1] at h1
  exact rowAt_some h1.1 h1.2
theorem others_reach (h : Others rs qs low ms rs.length) (hm : ∀ x, x ∈ ms ↔ Reach rs low st x) (x : Int) : Reach qs low st x ↔ Reach rs low st x := by
  constructor
  · intro hx
    induction hx with
    | start hr =>
      obtain ⟨r, hr⟩ := others_back h hr
      exact .start hr
    | goal _ ha hg hb ih =>
      obtain ⟨r, hr⟩ := ih.row
      have := others_at h hr ((hm _).mpr ih)
      rw [this] at ha
      cases ha
      obtain ⟨r', hr'⟩ := others_back h hb
      exact .goal ih hr hg hr'
    | next _ ha hg hb ih =>
      obtain ⟨r, hr⟩ := ih.row
      have := others_at h hr ((hm _).mpr ih)
      rw [this] at ha
      cases ha
      obtain ⟨r', hr'⟩ := others_back h hb
      exact .next ih hr hg hr'
  · intro hx
    induction hx with
    | start hr =>
      obtain ⟨q, hq⟩ := others_some h hr
      exact .start hq
    | goal h0 ha hg hb ih =>
      obtain ⟨q, hq⟩ := others_some h hb
      exact .goal ih (others_at h ha ((hm _).mpr h0)) hg hq
    | next h0 ha hg hb ih =>
      obtain ⟨q, hq⟩ := others_some h hb
      exact .next ih (others_at h ha ((hm _).mpr h0)) hg hq
theorem others_fine (h : Others rs qs low ms rs.length) (hm : ∀ x, x ∈ ms ↔ Reach rs low st x) (hf : ¬ Faulty rs low st) : ¬ Faulty qs low st := by
  rintro ⟨a, q, ha, hq, hfl, he⟩
  have hr := (others_reach h hm a).mp ha
  obtain ⟨r, hr2⟩ := hr.row
  have := others_at h hr2 ((hm _).mpr hr)
  rw [this] at hq
  cases hq
  rw [h.1] at he
  exact hf ⟨a, _, hr, hr2, hfl, he⟩
end
section
variable {rs : List RowD} {low st d : Int}
theorem rowAt_shift (a : Int) : rowAt (rs.map (RowD.shift d)) (low + d) (a + d) = (rowAt rs low a).map (RowD.shift d) := by
  unfold rowAt
  by_cases h : low ≤ a
  · rw [if_pos h, if_pos (by omega), List.getElem?_map, show (a + d - (low + d)) = a - low by omega]
  · rw [if_neg h, if_neg (by omega)]; rfl
theorem goals_shift (r : RowD) : (r.shift d).goals = r.goals.map (· + d) := by cases r <;> rfl
theorem falls_shift (r : RowD) : (r.shift d).falls = r.falls := by cases r <;> rfl
theorem reach_shift {a : Int} (h : Reach rs low st a) : Reach (rs.map (RowD.shift d)) (low + d) (st + d) (a + d) := by
  have at' : ∀ {b : Int} {r : RowD}, rowAt rs low b = some r → rowAt (rs.map (RowD.shift d)) (low + d) (b + d) = some (r.shift d) := fun h => by rw [rowAt_shift, h]; rfl
  induction h with
  | start hr => exact .start (at' hr)
  | goal _ ha hg hb ih => exact .goal ih (at' ha) (by rw [goals_shift]; exact List.mem_map.mpr ⟨_, hg, rfl⟩) (at' hb)
  | @next a r q _ ha hg hb ih =>
    have hb' := at' hb
    rw [show a + 1 + d = a + d + 1 by omega] at hb' ⊢
    exact .next ih (at' ha) (by rw [falls_shift]; exact hg) hb'
theorem rowAt_unshift {a : Int} {q : RowD} (h : rowAt (rs.map (RowD.shift d)) (low + d) a = some q) : ∃ r, rowAt rs low (a - d) = some r ∧ q = r.shift d := by
  have := rowAt_shift (rs := rs) (low := low) (d := d) (a - d)
  rw [show a - d + d = a by omega, h] at this
  cases hr : rowAt rs low (a - d) with
  | none => rw [hr] at this; cases this
  | some r => rw [hr] at this; exact ⟨r, rfl, Option.some.inj this⟩
theorem reach_unshift {a : Int} (h : Reach (rs.map (RowD.shift d)) (low + d) (st + d) a) : Reach rs low st (a - d) := by
  induction h with
  | start hr =>
    obtain ⟨r, hr, _⟩ := rowAt_unshift hr
    rw [show st + d - d = st by omega] at hr ⊢
    exact .start hr
  | goal _ ha hg hb ih =>
    obtain ⟨r, hr, rfl⟩ := rowAt_unshift ha
    obtain ⟨r', hr', _⟩ := rowAt_unshift hb
    rw [goals_shift] at hg
    obtain ⟨g, hg2, rfl⟩ := List.mem_map.mp hg
    rw [show g + d - d = g by omega] at hr' ⊢
    exact .goal ih hr hg2 hr'
  | @next a r q _ ha hg hb ih =>
    obtain ⟨r, hr, rfl⟩ := rowAt_unshift ha
    obtain ⟨r', hr', _⟩ := rowAt_unshift hb
    rw [falls_shift] at hg
    rw [show a + 1 - d = a - d + 1 by omega] at hr' ⊢
    exact .next ih hr hg hr'
theorem shift_mem {x : Int} {ms : List Int} (hm : ∀ x, x ∈ ms ↔ Reach rs low st x) : x ∈ ms.map (· + d) ↔ Reach (rs.map (RowD.shift d)) (low + d) (st + d) x := by
  constructor
  · intro h
    obtain ⟨a, ha, rfl⟩ := List.mem_map.mp h
    exact reach_shift ((hm a).mp ha)
  · intro h
    exact List.mem_map.mpr ⟨x - d, (hm _).mpr (reach_unshift h), by omega⟩
theorem faulty_shift : Faulty (rs.map (RowD.shift d)) (low + d) (st + d) ↔ Faulty rs low st := by
  constructor
  · rintro ⟨a, q, ha, hq, hf, he⟩
    obtain ⟨r, hr, rfl⟩ := rowAt_unshift hq
    rw [falls_shift] at hf
    rw [List.length_map] at he
    exact ⟨a - d, r, reach_unshift ha, hr, hf, by omega⟩
  · rintro ⟨a, r, ha, hr, hf, he⟩
    exact ⟨a + d, r.shift d, reach_shift ha, by rw [rowAt_shift, hr]; rfl, by rw [falls_shift]; exact hf, by rw [List.length_map]; omega⟩
theorem shift_strict {ms : List Int} (h : ms.Pairwise (· < ·)) : (ms.map (· + d)).Pairwise (· < ·) := List.pairwise_map.mpr (h.imp fun {a b} q => by omega)
end
/-- the law's state ahead of the last step -/
def LawMid (w : World) (s1 : Shared) (g : Heap) (Lg : Addr) (vars : List (Str × Value)) (pre ls : Led) (s' : Shared) : Prop :=
  ∃ h9 tk9 m9, s' = { s1 with heap := h9, toks := tk9 } ∧ Fr g Lg h9 m9 ∧ Vars m9 vars ∧ News g Lg h9 (pre ++ ls)
theorem any_mem {ms : List Int} {z : Int} (h : (ms.any fun x => x == z) = true) : z ∈ ms := by
  obtain ⟨x, h1, h2⟩ := List.any_eq_true.mp h
  rwa [beq_iff_eq.mp h2] at h1
theorem any_not {ms : List Int} {z : Int} (h : (ms.any fun x => x == z) = false) : z ∉ ms := fun q => by
  have : (ms.any fun x => x == z) = true := List.any_eq_true.mpr ⟨z, q, beq_self_eq_true z⟩
  rw [this] at h
  cases h
theorem off_add {own pre ls : Led} {a : Addr} {o : Obj} (h : OwnOff own ((pre ++ ls).map (·.1))) (ha : ∀ p ∈ own, p.1 < a) : OwnOff own ((pre ++ (a, o) :: ls).map (·.1)) := by
  intro p hp b hb
  rw [List.map_append, List.mem_append, List.map_cons, List.mem_cons] at hb
  rcases hb with hb | rfl | hb
  · exact h p hp b (by rw [List.map_append, List.mem_append]; exact .inl hb)
  · exact Nat.ne_of_lt (ha p hp)
  · exact h p hp b (by rw [List.map_append, List.mem_append]; exact .inr hb)
end Mine
local macro_rules | `(tactic| walk_at "execs cons") => `(tactic| first | (k_here; k_made; walk_at "execs cons") | (k_here; k_gentoks) | ((with_reducible refine wpAny_execs_cons ?_); try dsimp only))
local macro_rules | `(tactic| walk_at "call ref") => `(tactic| walk_at "m:w4")
local macro_rules | `(tactic| walk_at "exec Assign cons ListComp") => `(tactic| (k_here; k_dflt (refine Mine.Assign_rng (F₀ := by k_asm) (by rfl) (by with_unfolding_all rfl) (by with_unfolding_all rfl) (by decide) (by rfl) (by decide) (by rfl) (by rfl) (by rfl) ?_)))
local macro_rules | `(tactic| walk_at "eval Dict") => `(tactic| ((with_reducible show wpAny _ _ (eval (PySem.Expr.Dict [_, _, _] _ _) _) _ _ _); refine Mine.Dict_stop1 ?_))
local macro_rules | `(tactic| walk_at "eval Dict") => `(tactic| ((with_reducible show wpAny _ _ (eval (PySem.Expr.Dict [_] _ _) _) _ _ _); refine Mine.Dict_stop1 ?_))
local macro_rules | `(tactic| walk_at "subscriptTail Name Name ref int") => `(tactic| walk_at "m:w5")
local macro_rules | `(tactic| walk_at "exec If") => `(tactic| ((with_reducible show wpAny _ _ (exec (PySem.Stmt.If (PySem.Expr.Call _ _ _ _) _ _ _) _) _ _ _); refine Mine.Stop.out ?_))
local macro_rules | `(tactic| walk_at "exec For Name Subscript cons nil") => `(tactic| walk_at "m:w3")
local macro_rules | `(tactic| walk_at "m:w7") => `(tactic| (k_here; (with_reducible show wpAny _ _ (subscriptTail _ _ (Value.ref _) (Value.int _ _)) _ _ _); k_dflt (refine' kda_item (knd := PySem.intKind _ _) ?k1 ?k2 ?k3 (intKind_is _ _ _ _) ?k4 ?_; (case k1 => k_asm); (case k2 => k_mem); (case k3 => with_reducible assumption); (case k4 => with_reducible assumption))))
local macro_rules | `(tactic| walk_at "subscriptTail Name Name ref int") => `(tactic| walk_at "m:w7")
local macro_rules | `(tactic| walk_at "subscriptTail Name BinOp ref int") => `(tactic| walk_at "m:w7")
local macro_rules | `(tactic| walk_at "exec If") => `(tactic| ((with_reducible show wpAny _ _ (exec (PySem.Stmt.If (PySem.Expr.Compare _ [PySem.CmpOp.IsNot] _ _) _ _ _) _) _ _ _); refine Mine.Stop.out ?_))
local macro_rules | `(tactic| walk_at "eval ListComp") => `(tactic| (k_here; k_dflt (refine Mine.ListComp_lst (F₀ := by k_asm) (by rfl) (by decide) (by rfl) (by decide) (by rfl) ?_)))
local macro_rules | `(tactic| walk_at "KdnMade") => `(tactic| (k_here; k_dflt (refine' kdn_made_int ?F ?N ?U ?d ?k ?n ?_; (case F => k_asm); (case N => k_asm); (case U => k_updF); (case d => k_asm); (case k => rfl); (case n => first | exact Mine.nd3 (by assumption) | exact List.nodup_cons.mpr ⟨List.not_mem_nil, .nil⟩); intro h' o' F' N' hd')))
namespace Mine
section
open PySem.Spec
set_option maxHeartbeats 0 in
theorem holds : PySem.Challenge.rw_sa0141_01.Holds := by
  refine' HD (rfl : HD.lawDef = ⟨_, _, _, _, _⟩) ?_
  k_go0
  all_goals try k_fold
  rename_i w s0 s1 mg mb G Y fa o pm doc ho hg KX X V GL T B TE TW w1 w2 M w3 w4 hcd ns hs hlay0 hL hr hl2 w5 w6 l vs w7 hLl ra w1' r0 hI hr' hcn hcn2 K0 hD h1 tk1 F1 o4 o3 o2 o1 d4 d3 d2 d1 N1 X1
  have hlen : ns.length ≤ 63 := by omega
  clear Y ho hlay0 hL hr hl2 hs ra w1' r0 hr' hcn2 hcn hD hcd
  have F2 : Fr (Shared.heap s1) (Array.size (Heap.objs (Shared.heap s1))) h1 (fun y => if y = Str.ofString "script" then some (.ref l) else none) := by with_unfolding_all exact F1
  have c4 : o4.data = Data.cell none := by with_unfolding_all exact d4
  have c3 : o3.data = Data.cell none := by with_unfolding_all exact d3
  have c2 : o2.data = Data.cell none := by with_unfolding_all exact d2
  have c1 : o1.data = Data.cell none := by with_unfolding_all exact d1
  clear F1 d4 d3 d2 d1 X1
  refine grab_own PassesOwn.leaving ?_
  intro hOwn
  try dsimp only at hOwn
  have K1 : Below callerA (Shared.heap s1) [] (Shared.heap s1) := K0
  clear K0 G
  generalize hLg : Array.size (Heap.objs (Shared.heap s1)) = Lg at *
  clear hLg
  generalize hs1 : Shared.heap s1 = g at *
  k_steps
  refine Stop.mk ?_
  k_dflt (refine' figures_spec w l vs ns hI hlen _ _ _ _ _ _ _ _ _ _ _ _ _ _ _ _ _ _ _ _ _ K1 F2 KX N1 T ?kf hLl ?kr ?ku ?_; (case kf => exact rfl); (case kr => ktr_room); (case ku => ktr_units))
  (intro _ l1 h2 tk2 F3 N3 h99; (with_reducible refine Mine.hide fun G9 hG9 => ?_); rcases h99 with ⟨f, fo, rfl, hf, hfo, hsub, hlt⟩ <;> (refine hG9 ?_; clear hG9 G9))
  clear F2 N1
  have N4 : News g Lg h2 [(f, fo), (Lg + 1 + 1 + 1 + 1, o4), (Lg + 1 + 1 + 1, o3), (Lg + 1 + 1, o2), (Lg + 1, o1)] := fun p hp => by
    rcases List.mem_cons.mp hp with rfl | hp
    · exact N3 _ hf
    · exact N3 _ (hsub p hp)
  have hx1 : Lg + 1 < f := hlt (Lg + 1, _) (by k_mem)
  have hf1 : f ≠ Lg + 1 := Nat.ne_of_gt hx1
  have hg1 : Lg + 1 ≠ f := Nat.ne_of_lt hx1
  have hx2 : Lg + 1 + 1 < f := hlt (Lg + 1 + 1, _) (by k_mem)
  have hf2 : f ≠ Lg + 1 + 1 := Nat.ne_of_gt hx2
  have hg2 : Lg + 1 + 1 ≠ f := Nat.ne_of_lt hx2
  have hx3 : Lg + 1 + 1 + 1 < f := hlt (Lg + 1 + 1 + 1, _) (by k_mem)
  have hf3 : f ≠ Lg + 1 + 1 + 1 := Nat.ne_of_gt hx3
  have hg3 : Lg + 1 + 1 + 1 ≠ f := Nat.ne_of_lt hx3
  have hx4 : Lg + 1 + 1 + 1 + 1 < f := hlt (Lg + 1 + 1 + 1 + 1, _) (by k_mem)
  have hf4 : f ≠ Lg + 1 + 1 + 1 + 1 := Nat.ne_of_gt hx4
  have hg4 : Lg + 1 + 1 + 1 + 1 ≠ f := Nat.ne_of_lt hx4
  clear hsub hlt N3 hf
  k_steps
  rename_i h1a of_ d_f tk0 i1 t1 fo1 h2a tk1 hfo1 i10 i11 h3a ol_ d_low tk2 lmenu h4a hmenu i2 t2 fo2 h5a tk3 hfo2 i20 i21 t3 h6a om_ d_many h7a tk5 u1 u2 u3 hR F5 N5 hK
  obtain ⟨n, hM, hn2, hn8⟩ : ∃ n : Nat, List.getD [4, 2, 3, 5, 6, 7, 8] (Int.toNat i2) 0 = (n : Int) ∧ 2 ≤ n ∧ n ≤ 8 := by
    have : i2 = 0 ∨ i2 = 1 ∨ i2 = 2 ∨ i2 = 3 ∨ i2 = 4 ∨ i2 = 5 ∨ i2 = 6 := by omega
    rcases this with rfl | rfl | rfl | rfl | rfl | rfl | rfl
    · exact ⟨4, rfl, by decide, by decide⟩
    · exact ⟨2, rfl, by decide, by decide⟩
    · exact ⟨3, rfl, by decide, by decide⟩
    · exact ⟨5, rfl, by decide, by decide⟩
    · exact ⟨6, rfl, by decide, by decide⟩
    · exact ⟨7, rfl, by decide, by decide⟩
    · exact ⟨8, rfl, by decide, by decide⟩
  rw [hM] at d_many hR
  have N6 : News g Lg _ [(f, fo2), (Lg + 1 + 1 + 1 + 1, o4), (Lg + 1 + 1 + 1, om_), (Lg + 1 + 1, ol_), (Lg + 1, of_)] := fun p hp => N5 p (.tail _ hp)
  have hlowx : ∃ low tlow, 4 + i1 = low ∧ ol_.data = Data.cell (some (Value.int low tlow)) := ⟨_, _, rfl, d_low⟩
  clear d_low
  ((with_reducible refine Mine.hide fun G9 hG9 => ?_); obtain ⟨low, tlow, hlow, d_low⟩ := hlowx; refine hG9 ?_; clear hG9 G9)
  have hlow4 : 4 ≤ low := by omega
  have hlow44 : low < 44 := by omega
  clear N5 hM i20 i21 hmenu hlow i10 i11 hfo1
  refine Stop.mk ⟨_, _, _, _, _, n, _, (fun i ys nx => ∃ fo ls rs, nx = (f, fo) :: (Lg + 1 + 1 + 1 + 1, o4) :: (Lg + 1 + 1 + 1, om_) :: (Lg + 1 + 1, ol_) :: (Lg + 1, of_) :: ls ∧ Figs fo ∧ (∀ p ∈ ls, Rowish p.2) ∧ RowsAt w ls ys rs ∧ rs.length = i ∧ ∀ r ∈ rs, ∀ q ∈ r.goals, OkG low n q),
    rfl, rfl, F5, N6, hR, rfl, by omega, ⟨fo2, [], [], rfl, hfo2, (fun p hp => nomatch hp), ⟨rfl, fun j r h => by simp at h⟩, rfl, (fun r hr => nomatch hr)⟩, ?_, ?_⟩
  · (intro i ys nx t I oI C oC D m₂ h tk E' hi hyl h99 hPI hoC hm F6 N7 off6 ne6; (with_reducible refine Mine.hide fun G9 hG9 => ?_); rcases h99 with ⟨fo, ls, rs, rfl, hfo, hish, hrs, hrl, hgo⟩ <;> (refine hG9 ?_; clear hG9 G9))
    clear F5 N6
    k_steps
    have hfD : f ≠ D := off6.1.2.2
    have hls : ∀ p ∈ ls, p.1 ≠ f := by
      obtain ⟨vs9, ns9, n9, e9, _⟩ := id hfo
      exact rowish_ne N7 (o := fo) (by k_mem) (by rw [e9]; exact not_list) (fun p hp => .tail _ (.tail _ (.tail _ (.tail _ (.tail _ (.tail _ (.tail _ (.tail _ hp)))))))) hish
    have N8 : News g Lg h ((f, fo) :: (I, oI) :: (C, oC) :: (D, LCg.lst ys) :: (Lg + 1 + 1 + 1 + 1, o4) :: (Lg + 1 + 1 + 1, om_) :: (Lg + 1 + 1, ol_) :: (Lg + 1, of_) :: ls) := fun p hp => by
      rcases List.mem_cons.mp hp with rfl | hp
      · exact N7 _ (.tail _ (.tail _ (.tail _ (.head _))))
      rcases List.mem_cons.mp hp with rfl | hp
      · exact N7 _ (.head _)
      rcases List.mem_cons.mp hp with rfl | hp
      · exact N7 _ (.tail _ (.head _))
      rcases List.mem_cons.mp hp with rfl | hp
      · exact N7 _ (.tail _ (.tail _ (.head _)))
      · exact N7 _ (.tail _ (.tail _ (.tail _ (.tail _ hp))))
    clear N7
    (refine Mine.Stop.mk ?_; k_dflt (refine' Mine.Spec.use (drawn_spec w f fo low n tlow t3 ((I, oI) :: (C, oC) :: (D, LCg.lst ys) :: (Lg + 1 + 1 + 1 + 1, o4) :: (Lg + 1 + 1 + 1, om_) :: (Lg + 1 + 1, ol_) :: (Lg + 1, of_) :: ls) hfo ?hf (by omega) (by omega)) ?k1 ?k2 ?k3 ?k4 ?k5 ?k6 ?k7 ?k8 ?k9 ?_; (case k1 => k_asm); (case k2 => k_asm); (case k3 => k_asm); (case k4 => k_asm); (case k5 => k_asm); (case k6 => first | exact rfl | assumption); (case k7 => walk_at "m:sub"); (case k8 => ktr_room); (case k9 => ktr_units)))
    case hf =>
      intro p hp
      simp only [List.mem_cons] at hp
      rcases hp with rfl | rfl | rfl | rfl | rfl | rfl | rfl | hp
      · exact Ne.symm off6.1.1
      · exact Ne.symm off6.1.2.1
      · exact Ne.symm off6.1.2.2
      · exact hg4
      · exact hg3
      · exact hg2
      · exact hg1
      · exact hls p hp
    (intro x l2 h9 tk9 F9 N9 h99; (with_reducible refine Mine.hide fun G9 hG9 => ?_); rcases h99 with ⟨⟨r, hrow, hgr⟩, fo', hfo', hsub⟩ <;> (refine hG9 ?_; clear hG9 G9))
    have hsub2 : ∀ p ∈ ls, p ∈ l2 := fun p hp => hsub p (.tail _ (.tail _ (.tail _ (.tail _ (.tail _ (.tail _ (.tail _ (.tail _ hp))))))))
    have nI := rowsOf_ne N9 (hsub (I, oI) (by k_mem)) (by obtain ⟨fs, hfs⟩ := hPI; exact not_fields hfs)
    have nC := rowsOf_ne N9 (hsub (C, oC) (by k_mem)) (not_ns hoC)
    have nD := rowsOf_ne N9 (hsub (D, LCg.lst ys) (by k_mem)) not_list
    change LCg.CompEnd _ _ _ _ _ _ _ _ _ _ _ _ _ _
    refine ⟨h9, tk9, (f, fo') :: (Lg + 1 + 1 + 1 + 1, o4) :: (Lg + 1 + 1 + 1, om_) :: (Lg + 1 + 1, ol_) :: (Lg + 1, of_) :: rowsOf l2, rfl, F9, ?_, ?_, trivial, fo', rowsOf l2, rs ++ [r], rfl, hfo', rowsOf_ish, ?_, by rw [List.length_append, hrl]; rfl, ?_⟩
    · intro p hp
      simp only [List.mem_cons] at hp
      rcases hp with rfl | rfl | rfl | rfl | rfl | rfl | rfl | rfl | hp
      · exact N9 _ (hsub _ (by k_mem))
      · exact N9 _ (hsub _ (by k_mem))
      · exact N9 _ (hsub _ (by k_mem))
      · exact N9 _ (hsub _ (by k_mem))
      · exact N9 _ (hsub _ (by k_mem))
      · exact N9 _ (hsub _ (by k_mem))
      · exact N9 _ (hsub _ (by k_mem))
      · exact N9 _ (hsub _ (by k_mem))
      · exact N9 _ (rowsOf_sub p hp)
    · exact ⟨off6.1, off6.2.1, off6.2.2.1, off6.2.2.2.1, off6.2.2.2.2.1, LCg.Off3.of fun p hp => ⟨nI p hp, nC p hp, nD p hp⟩⟩
    · exact RowsAt.push (RowsAt.part (RowsAt.mono hrs hsub2)) hrow.part
    · intro r' hr'
      rcases List.mem_append.mp hr' with hr' | hr'
      · exact hgo r' hr'
      · rw [List.mem_singleton.mp hr']; exact hgr
  · (intro ys nx hyl h99 D h8 tk8 F8 N8 off8; (with_reducible refine Mine.hide fun G9 hG9 => ?_); rcases h99 with ⟨fq, ls, rs, rfl, hfq, hish, hrs, hrl, hgo⟩ <;> (refine hG9 ?_; clear hG9 G9))
    have F9 : Fr g Lg h8 (fun y => if y = Str.ofString "rows" then some (.ref D) else if y = Str.ofString "script" then some (.ref l) else none) := F8
    refine wpAny_execs_cons ?_
    change wpAny _ _ _ _ _ { s1 with heap := h8, toks := tk8 }
    clear F5 N6 hR hK u3 u2 u1 tk5 h7a t2 fo2 h5a tk3 hfo2 lmenu h4a i2 i1 t1 fo1 F8
    clear hfo fo tk h6a h3a h2a tk0 h1a l1 h2 tk2 hI hlen hLl X V GL TE TW M B
    have nf1 : ∀ p ∈ ls, p.1 ≠ f := by
      obtain ⟨vs9, ns9, n9, e9, _⟩ := id hfq
      exact rowish_ne N8 (o := fq) (by k_mem) (by rw [e9]; exact not_list) (fun p hp => .tail _ (.tail _ (.tail _ (.tail _ (.tail _ (.tail _ hp)))))) hish
    have nD : ∀ p ∈ ls, p.1 ≠ D := fun p hp => off1_mem off8 p (.tail _ (.tail _ (.tail _ (.tail _ (.tail _ hp)))))
    have nc4 : ∀ p ∈ ls, p.1 ≠ Lg + 1 + 1 + 1 + 1 := rowish_ne N8 (o := o4) (by k_mem) (not_cell c4) (fun p hp => .tail _ (.tail _ (.tail _ (.tail _ (.tail _ (.tail _ hp)))))) hish
    have fD : f ≠ D := off8.1
    have fD2 : D ≠ f := Ne.symm fD
    have cD4 : Lg + 1 + 1 + 1 + 1 ≠ D := off8.2.1
    have cD3 : Lg + 1 + 1 + 1 ≠ D := off8.2.2.1
    have cD2 : Lg + 1 + 1 ≠ D := off8.2.2.2.1
    have cD1 : Lg + 1 ≠ D := off8.2.2.2.2.1
    clear off8
    refine join_stmt (LawRows w s1 g Lg D f (fun y => if y = Str.ofString "rows" then some (.ref D) else if y = Str.ofString "script" then some (.ref l) else none) [(Lg + 1 + 1 + 1 + 1, o4), (Lg + 1 + 1 + 1, om_), (Lg + 1 + 1, ol_), (Lg + 1, of_)] low n) ?_ ?_
    · k_steps
      · obtain ⟨zs, z, rfl, hzl⟩ : ∃ zs z, ys = zs ++ [z] ∧ zs.length = n - 1 := snoc_of (by omega)
        obtain ⟨qs, q, rfl, hql⟩ : ∃ qs q, rs = qs ++ [q] ∧ qs.length = n - 1 := snoc_of (by omega)
        rename Fr _ _ _ _ => F10
        rename News _ _ _ _ => N10
        k_dflt (refine' set_last (zs := zs) (z := z) (n := (zs ++ [z]).length) F10 N10 ?U ?_; (case U => k_upd))
        intro h11 F11 N11
        clear F10 N10
        k_steps
        rename Fr _ _ _ _ => F12
        rename News _ _ _ _ => N12
        exact ⟨rfl, lawRows_set F12 N12 (by assumption) hish hrs hrl hgo⟩
      · exact ⟨rfl, _, _, ys, ls, rs, _, _, rfl, by assumption, by assumption, by assumption, hish, hrs, hrl, hgo⟩
    · clear hrs hrl hgo hfq hish F9 N8 nD nf1 nc4 hyl ys rs ls fq h8 tk8
      (intro s9 h99; (with_reducible refine Mine.hide fun G9 hG9 => ?_); rcases h99 with ⟨h9, tk9, ys, ls, rs, fq, k9, rfl, F9, N9, hfq, hish, hrs, hrl, hgo⟩ <;> (refine hG9 ?_; clear hG9 G9))
      have N10 : News g Lg h9 ((D, listOf ys.toArray k9) :: (f, fq) :: (Lg + 1 + 1 + 1 + 1, o4) :: (Lg + 1 + 1 + 1, om_) :: (Lg + 1 + 1, ol_) :: (Lg + 1, of_) :: ls) := N9
      clear N9
      have nf1 : ∀ p ∈ ls, p.1 ≠ f := by
        obtain ⟨vs9, ns9, n9, e9, _⟩ := id hfq
        exact rowish_ne N10 (o := fq) (by k_mem) (by rw [e9]; exact not_list) (fun p hp => .tail _ (.tail _ (.tail _ (.tail _ (.tail _ (.tail _ hp)))))) hish
      have nc4 : ∀ p ∈ ls, p.1 ≠ Lg + 1 + 1 + 1 + 1 := rowish_ne N10 (o := o4) (by k_mem) (not_cell c4) (fun p hp => .tail _ (.tail _ (.tail _ (.tail _ (.tail _ (.tail _ hp)))))) hish
      dsimp only
      k_steps
      (refine Mine.Stop.mk ?_; k_dflt (refine' Mine.Spec.use (shapes_spec w _) ?k1 ?k2 ?k3 ?k4 ?k5 ?k6 ?k7 ?k8 ?k9 ?_; (case k1 => k_asm); (case k2 => k_asm); (case k3 => k_asm); (case k4 => k_asm); (case k5 => k_asm); (case k6 => first | exact rfl | assumption); (case k7 => walk_at "m:sub"); (case k8 => ktr_room); (case k9 => ktr_units)))
      (intro _ l1 h10 tk10 F11 N11 h99; (with_reducible refine Mine.hide fun G9 hG9 => ?_); rcases h99 with ⟨dt, ot, kvt, rfl, hmt, hdt, lot, hkt, hsub, hlt⟩ <;> (refine hG9 ?_; clear hG9 G9))
      clear F9
      have N12 : News g Lg h10 ((D, listOf ys.toArray k9) :: (f, fq) :: (Lg + 1 + 1 + 1 + 1, o4) :: (Lg + 1 + 1 + 1, om_) :: (Lg + 1 + 1, ol_) :: (Lg + 1, of_) :: (dt, ot) :: ls) := fun p hp => by
        simp only [List.mem_cons] at hp
        rcases hp with rfl | rfl | rfl | rfl | rfl | rfl | rfl | hp
        · exact N11 _ (hsub _ (by k_mem))
        · exact N11 _ (hsub _ (by k_mem))
        · exact N11 _ (hsub _ (by k_mem))
        · exact N11 _ (hsub _ (by k_mem))
        · exact N11 _ (hsub _ (by k_mem))
        · exact N11 _ (hsub _ (by k_mem))
        · exact N11 _ hmt
        · exact N11 _ (hsub _ (.tail _ (.tail _ (.tail _ (.tail _ (.tail _ (.tail _ hp)))))))
      have hdtf : dt ≠ f := Nat.ne_of_gt (hlt (f, _) (by k_mem))
      have hdt4 : dt ≠ Lg + 1 + 1 + 1 + 1 := Nat.ne_of_gt (hlt (Lg + 1 + 1 + 1 + 1, _) (by k_mem))
      clear N10 N11 hsub hlt hmt
      k_steps
      rename Fr _ _ _ _ => F13
      rename News _ _ _ _ => N13
      refine Stop.mk ?_
      refine kdn_eval (knd := intKind PG w) F13 N13 (Top.nolimit T) rfl rfl (List.cons_ne_nil _ _) (by decide) ?_
      intro d h13 od0 F14 N14 hld lod hd0
      clear F13 N13
      k_steps
      rename Fr _ _ _ _ => F15
      rename News _ _ _ _ => N15
      rename Obj.IsDictOf (intKind PG w) _ _ => hd1
      rename IsRange _ _ _ _ _ _ _ _ => hR
      rename_i a1 h14 ha1 a2 h15 ha2 a3 h16 ha3 h17 od1 h18 h19 tk19 u1 u2 u3 hK
      have hd2 : Obj.IsDictOf (intKind PG w) od1 [(2, .ref a1), (low - 1, .ref a2), (low + (n : Int), .ref a3)] := hd1
      clear hd1
      have hdD : D ≠ d := Nat.ne_of_lt (hld (D, _) (by k_mem))
      have hdf : f ≠ d := Nat.ne_of_lt (hld (f, _) (by k_mem))
      have hdc4 : Lg + 1 + 1 + 1 + 1 ≠ d := Nat.ne_of_lt (hld (Lg + 1 + 1 + 1 + 1, _) (by k_mem))
      have hdc3 : Lg + 1 + 1 + 1 ≠ d := Nat.ne_of_lt (hld (Lg + 1 + 1 + 1, _) (by k_mem))
      have hdc2 : Lg + 1 + 1 ≠ d := Nat.ne_of_lt (hld (Lg + 1 + 1, _) (by k_mem))
      have hdc1 : Lg + 1 ≠ d := Nat.ne_of_lt (hld (Lg + 1, _) (by k_mem))
      have hdt1 : dt ≠ d := Nat.ne_of_lt (hld (dt, _) (by k_mem))
      have nld : ∀ p ∈ ls, p.1 ≠ d := fun p hp => Nat.ne_of_lt (hld p (.tail _ (.tail _ (.tail _ (.tail _ (.tail _ (.tail _ (.tail _ hp))))))))
      clear hld hd0
      have N16 : News g Lg h19 ((d, od1) :: (D, listOf ys.toArray k9) :: (f, fq) :: (Lg + 1 + 1 + 1 + 1, o4) :: (Lg + 1 + 1 + 1, om_) :: (Lg + 1 + 1, ol_) :: (Lg + 1, of_) :: (dt, ot) :: (a3, listOf #[] 0) :: (a2, listOf #[] 0) :: (a1, listOf #[] 0) :: ls) := fun p hp => by
        simp only [List.mem_cons] at hp
        rcases hp with rfl | rfl | rfl | rfl | rfl | rfl | rfl | rfl | rfl | rfl | rfl | hp
        · exact N15 _ (by k_mem)
        · exact N15 _ (by k_mem)
        · exact N15 _ (by k_mem)
        · exact N15 _ (by k_mem)
        · exact N15 _ (by k_mem)
        · exact N15 _ (by k_mem)
        · exact N15 _ (by k_mem)
        · exact N15 _ (by k_mem)
        · exact N15 _ (by k_mem)
        · exact N15 _ (by k_mem)
        · exact N15 _ (by k_mem)
        · exact N15 _ (.tail _ (.tail _ (.tail _ (.tail _ (.tail _ (.tail _ (.tail _ (.tail _ (.tail _ (.tail _ (.tail _ hp)))))))))))
      have hrl30 : rs.length ≤ 30 := by omega
      refine range_loop (n := n) (fun i m nx => ∃ od ls2, nx = (d, od) :: (D, listOf ys.toArray k9) :: (f, fq) :: (Lg + 1 + 1 + 1 + 1, o4) :: (Lg + 1 + 1 + 1, om_) :: (Lg + 1 + 1, ol_) :: (Lg + 1, of_) :: (dt, ot) :: ls2 ∧ Tab w ls2 rs low n i od ∧ RowsAt w ls2 ys rs ∧ (∀ p ∈ ls2, p.1 ∉ [d, f, Lg + 1 + 1 + 1 + 1]) ∧
        Vars m [(Str.ofString "reached", .ref d), (Str.ofString "forms", .ref dt), (Str.ofString "rows", .ref D)]) rfl hR rfl (by omega) F15 N16 ?_ ?_ ?_
      · refine ⟨od1, (a3, listOf #[] 0) :: (a2, listOf #[] 0) :: (a1, listOf #[] 0) :: ls, rfl, Tab.init hlow4 hrl hd2 (by k_mem) (by k_mem) (by k_mem), RowsAt.mono hrs (fun p hp => .tail _ (.tail _ (.tail _ hp))), ?_, rfl, rfl, rfl, trivial⟩
        intro p hp
        simp only [List.mem_cons, List.not_mem_nil, or_false, not_or] at hp ⊢
        rcases hp with rfl | rfl | rfl | hp
        · exact ⟨Nat.ne_of_gt ha3.2.2.1, Nat.ne_of_gt ha3.2.2.2.2.1, Nat.ne_of_gt ha3.2.2.2.2.2.1⟩
        · exact ⟨Nat.ne_of_gt ha2.2.1, Nat.ne_of_gt ha2.2.2.2.1, Nat.ne_of_gt ha2.2.2.2.2.1⟩
        · exact ⟨Nat.ne_of_gt ha1.1, Nat.ne_of_gt ha1.2.2.1, Nat.ne_of_gt ha1.2.2.2.1⟩
        · exact ⟨nld p hp, nf1 p hp, nc4 p hp⟩
      · (intro i t m₁ nx h tk own hi hoff h99 F17 N17; (with_reducible refine Mine.hide fun G9 hG9 => ?_); rcases h99 with ⟨od, ls2, rfl, ⟨kvs, hkv, hkeys, hrv⟩, hrw, hbad, V⟩ <;> (refine hG9 ?_; clear hG9 G9))
        have F18 := Fr.vars V F17
        have N18 : News g Lg h ((d, od) :: (D, listOf ys.toArray k9) :: (f, fq) :: (Lg + 1 + 1 + 1 + 1, o4) :: (Lg + 1 + 1 + 1, om_) :: (Lg + 1 + 1, ol_) :: (Lg + 1, of_) :: (dt, ot) :: (ls2 ++ own)) := N17
        clear F17 N17 F15 N15 N16
        k_steps
        (refine Mine.Stop.mk ?_; k_dflt (refine' Mine.SpecT.use (reached_spec w D ys k9 low (low + (i : Int)) tlow tk rs ([(d, od), (D, listOf ys.toArray k9), (f, fq), (Lg + 1 + 1 + 1 + 1, o4), (Lg + 1 + 1 + 1, om_), (Lg + 1 + 1, ol_), (Lg + 1, of_), (dt, ot)] ++ (ls2 ++ own)) (by k_mem) (RowsAt.mono hrw fun p hp => List.mem_append_right _ (List.mem_append_left _ hp)) hrl30 (fun news => shapes_spec w news)) ?k1 ?k2 ?k3 ?k10 ?k4 ?k5 ?k11 ?k6 ?k7 ?k8 ?k9 ?_; (case k1 => k_asm); (case k2 => k_asm); (case k3 => k_asm); (case k10 => k_asm); (case k4 => k_asm); (case k5 => k_asm); (case k11 => k_asm); (case k6 => first | exact rfl | assumption); (case k7 => walk_at "m:sub"); (case k8 => ktr_room); (case k9 => ktr_units)))
        intro x l5 h5 tk5 F19 N19 hR5
        obtain ⟨ls3, hs3, hrv3, hbad3, N20', hoff3⟩ := reached_led (bad := [d, f, Lg + 1 + 1 + 1 + 1]) hR5 N19 (by
          intro b hb
          simp only [List.mem_cons, List.not_mem_nil, or_false] at hb
          rcases hb with rfl | rfl | rfl
          · exact ⟨od, by k_mem⟩
          · exact ⟨fq, by k_mem⟩
          · exact ⟨o4, by k_mem⟩) hbad hoff
        have N20 : News g Lg h5 ((d, od) :: (D, listOf ys.toArray k9) :: (f, fq) :: (Lg + 1 + 1 + 1 + 1, o4) :: (Lg + 1 + 1 + 1, om_) :: (Lg + 1 + 1, ol_) :: (Lg + 1, of_) :: (dt, ot) :: (ls3 ++ own)) := N20'
        clear N18 F18 N19 N20' hR5
        have e1 : ∀ p ∈ ls3 ++ own, p.1 ≠ d := fun p hp => (List.mem_append.mp hp).elim (fun hp q => hbad3 p hp (by rw [q]; exact .head _)) fun hp => hoff3 p hp d (.head _)
        have hkl : kvs.length ≤ 100 := by have := Tab.len hkeys; omega
        k_steps
        rename Fr _ _ _ _ => F21
        rename News _ _ _ _ => N21
        rename Obj.IsDictOf (intKind PG w) _ (stored _ _ _) => hd3
        rename_i h21 od3
        refine InvEndG.intro (nx := (d, od3) :: (D, listOf ys.toArray k9) :: (f, fq) :: (Lg + 1 + 1 + 1 + 1, o4) :: (Lg + 1 + 1 + 1, om_) :: (Lg + 1 + 1, ol_) :: (Lg + 1, of_) :: (dt, ot) :: ls3) F21 N21 ⟨od3, ls3, rfl, Tab.step hlow4 hi hkeys (fun kv hk => (hrv kv hk).mono hs3) hd3 hrv3, RowsAt.mono hrw hs3, hbad3, rfl, rfl, rfl, trivial⟩ hoff3 ?_ ?_
        · exact sub_cons (sub_cons (sub_cons (sub_cons (sub_cons (sub_cons (sub_cons (sub_cons sub_left)))))))
        · exact sub_tail (sub_tail (sub_tail (sub_tail (sub_tail (sub_tail (sub_tail (sub_tail sub_right)))))))
      · (intro m₁ nx h20 tk20 h99 F17 N17; (with_reducible refine Mine.hide fun G9 hG9 => ?_); rcases h99 with ⟨od, ls2, rfl, hTab, hrw, hbad, V⟩ <;> (refine hG9 ?_; clear hG9 G9))
        have F18 := Fr.vars' V F17
        dsimp only
        change wpAny _ _ _ _ _ { s1 with heap := h20, toks := tk20 }
        clear F17 F15 N15 N16 hd2 hR hK u3 u2 u1 tk19 h19 tk h18 ha3 h16 a3 ha2 h15 a2 ha1 h14 a1 h17 od1 nld nf1 nc4 hrs hish V h13 h10 tk10 ls od0
        k_steps
        rename Fr _ _ _ _ => F21
        rename News _ _ _ _ => N21
        rename _ ∧ _ ∧ _ ∧ _ ∧ _ ∧ _ ∧ _ ∧ _ ∧ AllLt _ _ => hle
        rename_i le h21
        refine list_loop (l := le) (nn := 0) (vs := [.int 2 _, .int (low - 1) _, .int (low + (n : Int)) _]) (fun i m nx => nx = (le, listOf [.int 2 _, .int (low - 1) _, .int (low + (n : Int)) _].toArray 0) :: (d, od) :: (D, listOf ys.toArray k9) :: (f, fq) :: (Lg + 1 + 1 + 1 + 1, o4) :: (Lg + 1 + 1 + 1, om_) :: (Lg + 1 + 1, ol_) :: (Lg + 1, of_) :: (dt, ot) :: ls2 ∧ Vars m [(Str.ofString "reached", .ref d), (Str.ofString "forms", .ref dt), (Str.ofString "rows", .ref D)]) rfl F21 N21 (.head _) ⟨rfl, rfl, rfl, rfl, trivial⟩ ?_ ?_
        · rintro i v m2 nx h tk own hvi hoff _ ⟨rfl, V⟩ F22 N22
          obtain ⟨st, ts, rfl, hst⟩ : ∃ st ts, v = .int st ts ∧ rowAt rs low st = none := by
            have hm := List.mem_of_getElem? hvi
            simp only [List.mem_cons, List.not_mem_nil, or_false] at hm
            rcases hm with rfl | rfl | rfl
            · exact ⟨_, _, rfl, row_none fun q => by omega⟩
            · exact ⟨_, _, rfl, row_none fun q => by omega⟩
            · exact ⟨_, _, rfl, row_none fun q => by omega⟩
          have F23 := Fr.vars V F22
          clear F22 F21 N21
          k_steps
          (refine Mine.Stop.mk ?_; k_dflt (refine' Mine.SpecT.use (reached_spec w D ys k9 low st tlow ts rs (((le, listOf [.int 2 _, .int (low - 1) _, .int (low + (n : Int)) _].toArray 0) :: (d, od) :: (D, listOf ys.toArray k9) :: (f, fq) :: (Lg + 1 + 1 + 1 + 1, o4) :: (Lg + 1 + 1 + 1, om_) :: (Lg + 1 + 1, ol_) :: (Lg + 1, of_) :: (dt, ot) :: ls2) ++ own) (by k_mem) (RowsAt.mono hrw fun p hp => List.mem_append_left _ (.tail _ (.tail _ (.tail _ (.tail _ (.tail _ (.tail _ (.tail _ (.tail _ (.tail _ hp)))))))))) hrl30 (fun news => shapes_spec w news)) ?k1 ?k2 ?k3 ?k10 ?k4 ?k5 ?k11 ?k6 ?k7 ?k8 ?k9 ?_; (case k1 => k_asm); (case k2 => k_asm); (case k3 => k_asm); (case k10 => k_asm); (case k4 => k_asm); (case k5 => k_asm); (case k11 => k_asm); (case k6 => first | exact rfl | assumption); (case k7 => walk_at "m:sub"); (case k8 => ktr_room); (case k9 => ktr_units)))
          (intro x l5 h5 tk5 F24 N24 h99; (with_reducible refine Mine.hide fun G9 hG9 => ?_); rcases h99 with (⟨_, ⟨b, r, hb, _⟩, _⟩ | ⟨ms, ⟨a, us, c, rfl, hma, hIa, hsa, hla⟩, _, hra, _⟩) <;> (refine hG9 ?_; clear hG9 G9))
          · exact absurd hb (no_reach hst b)
          have hms : ms = [] := by
            cases ms with
            | nil => rfl
            | cons y r => exact absurd ((hra y).mp (.head _)) (no_reach hst y)
          subst hms
          cases hIa
          have N25 : News g Lg h5 ((a, listOf #[] c) :: (le, listOf [.int 2 _, .int (low - 1) _, .int (low + (n : Int)) _].toArray 0) :: (d, od) :: (D, listOf ys.toArray k9) :: (f, fq) :: (Lg + 1 + 1 + 1 + 1, o4) :: (Lg + 1 + 1 + 1, om_) :: (Lg + 1 + 1, ol_) :: (Lg + 1, of_) :: (dt, ot) :: (ls2 ++ own)) := fun p hp => (List.mem_cons.mp hp).elim (fun e => e ▸ N24 _ hma) fun hp => N24 p (hsa p hp)
          clear N24 hsa hla hma F23 N22
          k_steps
          rename Fr _ _ _ _ => F26
          rename News _ _ _ _ => N26
          exact InvEndG.intro F26 N26 ⟨.head _, rfl, rfl, rfl, rfl, trivial⟩ hoff (fun p hp => .tail _ (.tail _ (sub_cons (sub_cons (sub_cons (sub_cons (sub_cons (sub_cons (sub_cons (sub_cons (sub_cons sub_left)))))))) p hp))) (fun p hp => .tail _ (.tail _ (.tail _ (.tail _ (.tail _ (.tail _ (.tail _ (.tail _ (.tail _ (.tail _ (.tail _ (List.mem_append_right _ hp))))))))))))
        · rintro m2 nx h tk ⟨rfl, V⟩ F22 N22
          have F23 := Fr.vars' V F22
          dsimp only
          change wpAny _ _ _ _ _ { s1 with heap := h, toks := tk }
          have N23 : News g Lg h ((d, od) :: (D, listOf ys.toArray k9) :: (f, fq) :: (Lg + 1 + 1 + 1 + 1, o4) :: (Lg + 1 + 1 + 1, om_) :: (Lg + 1 + 1, ol_) :: (Lg + 1, of_) :: (dt, ot) :: ls2) := fun p hp => N22 p (.tail _ hp)
          clear F22 F21 N21 V N22 hle h21 le tk20 h20
          k_steps
          rename Fr _ _ _ _ => F24
          rename News _ _ _ _ => N24
          rename IsRange _ _ _ _ _ _ _ _ => hR
          refine range_loop (n := n) (fun i m nx => nx = (d, od) :: (D, listOf ys.toArray k9) :: (f, fq) :: (Lg + 1 + 1 + 1 + 1, o4) :: (Lg + 1 + 1 + 1, om_) :: (Lg + 1 + 1, ol_) :: (Lg + 1, of_) :: (dt, ot) :: ls2 ∧ Vars m [(Str.ofString "reached", .ref d), (Str.ofString "forms", .ref dt), (Str.ofString "rows", .ref D)]) rfl hR rfl (by omega) F24 N24 ⟨rfl, rfl, rfl, rfl, trivial⟩ ?_ ?_
          · rintro i t mi nx hh tkh own hi hoff ⟨rfl, V⟩ F25 N25
            have F26 := Fr.vars V F25
            have N26 : News g Lg hh ((d, od) :: (D, listOf ys.toArray k9) :: (f, fq) :: (Lg + 1 + 1 + 1 + 1, o4) :: (Lg + 1 + 1 + 1, om_) :: (Lg + 1 + 1, ol_) :: (Lg + 1, of_) :: (dt, ot) :: (ls2 ++ own)) := N25
            clear F25 N25 F24 N24
            have hil : i < rs.length := by omega
            have hri : rs[i]? = some rs[i] := List.getElem?_eq_getElem hil
            obtain ⟨v, hv, hrow0⟩ := hrw.2 i _ hri
            have hgo9 := hgo rs[i] (List.getElem_mem hil)
            generalize rs[i] = r at hri hrow0 hgo9
            ((with_reducible refine Mine.hide fun G9 hG9 => ?_); obtain ⟨av, t0, rest, n0, rfl, hmv⟩ := row_head hrow0; refine hG9 ?_; clear hG9 G9)
            obtain ⟨tK, hkT⟩ := hkt r
            have hv2 : ys[((i : Nat) : Int).toNat]? = some (.ref av) := by rw [Int.toNat_natCast]; exact hv
            have hyl : ys.length = rs.length := hrw.1
            have hmv2 : (av, tupO (S r.name t0 :: rest) n0) ∈ ls2 ++ own := List.mem_append_left _ hmv
            k_steps
            have hrow2 : RowAt w ((d, od) :: (D, listOf ys.toArray k9) :: (f, fq) :: (Lg + 1 + 1 + 1 + 1, o4) :: (Lg + 1 + 1 + 1, om_) :: (Lg + 1 + 1, ol_) :: (Lg + 1, of_) :: (dt, ot) :: (ls2 ++ own)) (.ref av) r := hrow0.mono fun p hp => .tail _ (.tail _ (.tail _ (.tail _ (.tail _ (.tail _ (.tail _ (.tail _ (List.mem_append_left _ hp))))))))
            (refine Mine.Stop.mk ?_; k_dflt (refine' Mine.Spec.use (targets_spec w (.ref av) r tK _ hrow2) ?k1 ?k2 ?k3 ?k4 ?k5 ?k6 ?k7 ?k8 ?k9 ?_; (case k1 => k_asm); (case k2 => k_asm); (case k3 => k_asm); (case k4 => k_asm); (case k5 => k_asm); (case k6 => first | exact rfl | assumption); (case k7 => walk_at "m:sub"); (case k8 => ktr_room); (case k9 => ktr_units)))
            (intro _ l5 h5 tk5 F27 N27 h99; (with_reducible refine Mine.hide fun G9 hG9 => ?_); rcases h99 with ⟨b1, us1, c1, rfl, hb1, hI1, hs1, hl1⟩ <;> (refine hG9 ?_; clear hG9 G9))
            have N28 : News g Lg h5 ((b1, listOf us1.toArray c1) :: (d, od) :: (D, listOf ys.toArray k9) :: (f, fq) :: (Lg + 1 + 1 + 1 + 1, o4) :: (Lg + 1 + 1 + 1, om_) :: (Lg + 1 + 1, ol_) :: (Lg + 1, of_) :: (dt, ot) :: (ls2 ++ own)) := fun p hp => (List.mem_cons.mp hp).elim (fun e => e ▸ N27 _ hb1) fun hp => N27 p (hs1 p hp)
            clear N27 hs1 hb1
            have hgl4 := goals_le r
            have hul1 : us1.length ≤ 4 := by rw [hI1.length]; exact hgl4
            k_steps
            rename Fr _ _ _ _ => F29
            rename News _ _ _ _ => N29
            rename_i b2 us2 ns2 c2 h6 hI2 e2' hP2 hO2 x2' y2' hl2
            clear x2' y2' e2'
            have hul2 : us2.length ≤ 4 := by rw [hI2.length, hP2.length_eq]; exact hgl4
            (refine Mine.Stop.mk ?_; k_dflt (refine' Mine.Spec.use (named_spec w (.ref av) r ((b2, listOf us2.toArray c2) :: (b1, listOf us1.toArray c1) :: (d, od) :: (D, listOf ys.toArray k9) :: (f, fq) :: (Lg + 1 + 1 + 1 + 1, o4) :: (Lg + 1 + 1 + 1, om_) :: (Lg + 1 + 1, ol_) :: (Lg + 1, of_) :: (dt, ot) :: (ls2 ++ own)) (hrow2.mono fun p hp => .tail _ (.tail _ hp))) ?k1 ?k2 ?k3 ?k4 ?k5 ?k6 ?k7 ?k8 ?k9 ?_; (case k1 => k_asm); (case k2 => k_asm); (case k3 => k_asm); (case k4 => k_asm); (case k5 => k_asm); (case k6 => first | exact rfl | assumption); (case k7 => walk_at "m:sub"); (case k8 => ktr_room); (case k9 => ktr_units)))
            (intro _ l7 h7 tk7 F30 N30 h99; (with_reducible refine Mine.hide fun G9 hG9 => ?_); rcases h99 with ⟨b3, us3, c3, rfl, hb3, hI3, hs3, hl3⟩ <;> (refine hG9 ?_; clear hG9 G9))
            have N31 : News g Lg h7 ((b3, listOf us3.toArray c3) :: (b2, listOf us2.toArray c2) :: (b1, listOf us1.toArray c1) :: (d, od) :: (D, listOf ys.toArray k9) :: (f, fq) :: (Lg + 1 + 1 + 1 + 1, o4) :: (Lg + 1 + 1 + 1, om_) :: (Lg + 1 + 1, ol_) :: (Lg + 1, of_) :: (dt, ot) :: (ls2 ++ own)) := fun p hp => (List.mem_cons.mp hp).elim (fun e => e ▸ N30 _ hb3) fun hp => N30 p (hs3 p hp)
            have hul3 : us3.length ≤ 4 := by rw [hI3.length]; exact hgl4
            clear N30 hs3 hb3 N29 F29
            k_steps
            case' refine_2 => exact absurd (sorted_eq (hP2.trans (List.Perm.symm (by assumption))) hO2 (by assumption)) (by assumption)
            rename Fr _ _ _ _ => F32
            rename News _ _ _ _ => N32
            have N33 : News g Lg _ ((d, od) :: (D, listOf ys.toArray k9) :: (f, fq) :: (Lg + 1 + 1 + 1 + 1, o4) :: (Lg + 1 + 1 + 1, om_) :: (Lg + 1 + 1, ol_) :: (Lg + 1, of_) :: (dt, ot) :: (ls2 ++ own)) := fun p hp => N32 p (.tail _ (.tail _ (.tail _ (.tail _ hp))))
            rename_i b4 us4 ns4 k4 h7a hI4 e4 hP4 hO4 x4 y4 hl4 heq4
            clear N32 heq4 hl4 y4 x4 hO4 hP4 e4 hI4
            (refine Mine.Stop.mk ?_; k_dflt (refine' Mine.Spec.use (goes_spec w (.ref av) r _ hrow2) ?k1 ?k2 ?k3 ?k4 ?k5 ?k6 ?k7 ?k8 ?k9 ?_; (case k1 => k_asm); (case k2 => k_asm); (case k3 => k_asm); (case k4 => k_asm); (case k5 => k_asm); (case k6 => first | exact rfl | assumption); (case k7 => walk_at "m:sub"); (case k8 => ktr_room); (case k9 => ktr_units)))
            rintro _ l8 h8 tk8 F34 N34 ⟨rfl, hs4⟩
            have N35 : News g Lg h8 ((d, od) :: (D, listOf ys.toArray k9) :: (f, fq) :: (Lg + 1 + 1 + 1 + 1, o4) :: (Lg + 1 + 1 + 1, om_) :: (Lg + 1 + 1, ol_) :: (Lg + 1, of_) :: (dt, ot) :: (ls2 ++ own)) := fun p hp => N34 p (hs4 p hp)
            clear N34 hs4 N33 F32
            k_steps
            (refine Mine.Stop.mk ?_; k_dflt (refine' Mine.Spec.use (falls_spec w (.ref av) r _ hrow2) ?k1 ?k2 ?k3 ?k4 ?k5 ?k6 ?k7 ?k8 ?k9 ?_; (case k1 => k_asm); (case k2 => k_asm); (case k3 => k_asm); (case k4 => k_asm); (case k5 => k_asm); (case k6 => first | exact rfl | assumption); (case k7 => walk_at "m:sub"); (case k8 => ktr_room); (case k9 => ktr_units)))
            rintro _ l9 h9 tk9 F36 N36 ⟨rfl, hs5⟩
            have N37 : News g Lg h9 ((d, od) :: (D, listOf ys.toArray k9) :: (f, fq) :: (Lg + 1 + 1 + 1 + 1, o4) :: (Lg + 1 + 1 + 1, om_) :: (Lg + 1 + 1, ol_) :: (Lg + 1, of_) :: (dt, ot) :: (ls2 ++ own)) := fun p hp => N36 p (hs5 p hp)
            clear N36 hs5 N35 F34
            k_steps
            · rename (RowD.falls r != RowD.falls r) = true => hne
              exact absurd hne (by simp)
            rename (RowD.falls r != RowD.falls r) = false => hne
            clear hne us4 ns4 k4 b4 hl1 hI1 hul1 us1 c1 b1 hI2 hP2 hO2 hl2 hul2 us2 c2 b2 ns2 hl3 hI3 hul3 us3 c3 b3 hR
            refine Stop.mk ?_
            refine kdn_eval (knd := intKind PG w) F36 N37 (Top.nolimit T) rfl rfl (List.cons_ne_nil _ _) (by decide) ?_
            intro du h10 ou0 F38 N38 hlu lou hu0
            clear F36 N37
            k_steps
            rename Fr _ _ _ _ => F39
            rename News _ _ _ _ => N39
            rename Obj.IsDictOf (intKind PG w) _ (intKeyPairs _) => hu1
            rename_i h11 ou1 h12 h13
            obtain ⟨tt, hu2⟩ : ∃ t : Value, Obj.IsDictOf (intKind PG w) ou1 [(low + (i : Int), .bool true)] := ⟨.none, hu1⟩
            have hdu1 : d < du := hlu (d, _) (by k_mem)
            have hduf : f < du := hlu (f, _) (by k_mem)
            have hduD : D < du := hlu (D, _) (by k_mem)
            have hlu2 : ∀ p ∈ ls2 ++ own, p.1 < du := fun p hp => hlu p (.tail _ (.tail _ (.tail _ (.tail _ (.tail _ (.tail _ (.tail _ (.tail _ hp))))))))
            clear hu1 tt hu0
            (refine Mine.Stop.mk ?_; k_dflt (refine' Mine.Spec.use (named_spec w (.ref av) r ((du, ou1) :: (d, od) :: (D, listOf ys.toArray k9) :: (f, fq) :: (Lg + 1 + 1 + 1 + 1, o4) :: (Lg + 1 + 1 + 1, om_) :: (Lg + 1 + 1, ol_) :: (Lg + 1, of_) :: (dt, ot) :: (ls2 ++ own)) (hrow2.mono fun p hp => .tail _ hp)) ?k1 ?k2 ?k3 ?k4 ?k5 ?k6 ?k7 ?k8 ?k9 ?_; (case k1 => k_asm); (case k2 => k_asm); (case k3 => k_asm); (case k4 => k_asm); (case k5 => k_asm); (case k6 => first | exact rfl | assumption); (case k7 => walk_at "m:sub"); (case k8 => ktr_room); (case k9 => ktr_units)))
            (intro _ l10 h14 tk14 F40 N40 h99; (with_reducible refine Mine.hide fun G9 hG9 => ?_); rcases h99 with ⟨bn, usn, cn9, rfl, hbn, hIn, hsn, hln⟩ <;> (refine hG9 ?_; clear hG9 G9))
            have N41 : News g Lg h14 ((bn, listOf usn.toArray cn9) :: (du, ou1) :: (d, od) :: (D, listOf ys.toArray k9) :: (f, fq) :: (Lg + 1 + 1 + 1 + 1, o4) :: (Lg + 1 + 1 + 1, om_) :: (Lg + 1 + 1, ol_) :: (Lg + 1, of_) :: (dt, ot) :: (ls2 ++ own)) := fun p hp => (List.mem_cons.mp hp).elim (fun e => e ▸ N40 _ hbn) fun hp => N40 p (hsn p hp)
            have hbl : ∀ p ∈ (du, ou1) :: (d, od) :: (D, listOf ys.toArray k9) :: (f, fq) :: (Lg + 1 + 1 + 1 + 1, o4) :: (Lg + 1 + 1 + 1, om_) :: (Lg + 1 + 1, ol_) :: (Lg + 1, of_) :: (dt, ot) :: (ls2 ++ own), p.1 ≠ bn := fun p hp => Nat.ne_of_lt (hln p hp)
            clear N40 hsn hbn N39 F39
            k_steps
            rename Fr _ _ _ _ => F42
            rename News _ _ _ _ => N42
            refine Stop.mk ?_
            refine join_stmt (LawNexts w s1 g Lg bn [(Str.ofString "due", .ref du), (Str.ofString "place", .int (i : Int) t), (Str.ofString "reached", .ref d), (Str.ofString "forms", .ref dt), (Str.ofString "rows", .ref D)] ((du, ou1) :: (d, od) :: (D, listOf ys.toArray k9) :: (f, fq) :: (Lg + 1 + 1 + 1 + 1, o4) :: (Lg + 1 + 1 + 1, om_) :: (Lg + 1 + 1, ol_) :: (Lg + 1, of_) :: (dt, ot) :: (ls2 ++ own)) r low i n) ?_ ?_
            · refine wpAny_If ?_
              k_steps
              (refine Mine.Stop.mk ?_; k_dflt (refine' Mine.Spec.use (falls_spec w (.ref av) r ((bn, listOf usn.toArray cn9) :: (du, ou1) :: (d, od) :: (D, listOf ys.toArray k9) :: (f, fq) :: (Lg + 1 + 1 + 1 + 1, o4) :: (Lg + 1 + 1 + 1, om_) :: (Lg + 1 + 1, ol_) :: (Lg + 1, of_) :: (dt, ot) :: (ls2 ++ own)) (hrow2.mono fun p hp => .tail _ (.tail _ hp))) ?k1 ?k2 ?k3 ?k4 ?k5 ?k6 ?k7 ?k8 ?k9 ?_; (case k1 => k_asm); (case k2 => k_asm); (case k3 => k_asm); (case k4 => k_asm); (case k5 => k_asm); (case k6 => first | exact rfl | assumption); (case k7 => walk_at "m:sub"); (case k8 => ktr_room); (case k9 => ktr_units)))
              rintro _ l11 h15 tk15 F43 N43 ⟨rfl, hs6⟩
              have N44 : News g Lg h15 ((bn, listOf usn.toArray cn9) :: (du, ou1) :: (d, od) :: (D, listOf ys.toArray k9) :: (f, fq) :: (Lg + 1 + 1 + 1 + 1, o4) :: (Lg + 1 + 1 + 1, om_) :: (Lg + 1 + 1, ol_) :: (Lg + 1, of_) :: (dt, ot) :: (ls2 ++ own)) := fun p hp => N43 p (hs6 p hp)
              clear N43 hs6 F42 N42
              have hunl : usn.length ≤ 4 := by rw [hIn.length]; exact goals_le r
              cases hfl : r.falls
              · k_steps
                exact ⟨rfl, h15, tk15, _, usn, cn9, rfl, F43, ⟨rfl, some_bool (fine_f hfl).symm, rfl, rfl, rfl, rfl, rfl, trivial⟩, N44, by rw [nexts_f hfl]; exact hIn⟩
              · k_steps
                rename Fr _ _ _ _ => F45
                rename News _ _ _ _ => N45
                rw [List.push_toArray] at N45
                exact ⟨rfl, _, _, _, usn ++ [_], _, rfl, F45, ⟨rfl, some_bool (fine_t hfl).symm, rfl, rfl, rfl, rfl, rfl, trivial⟩, N45, by rw [nexts_t hfl]; exact ints_push hIn⟩
            · clear hIn usn cn9 h14 tk14 l10 hrow2 F42 N42
              (intro s9 h99; (with_reducible refine Mine.hide fun G9 hG9 => ?_); rcases h99 with ⟨h14, tk14, m14, usn, cn9, rfl, F43, V14, N43, hIn⟩ <;> (refine hG9 ?_; clear hG9 G9))
              have F44 := Fr.vars' V14 F43
              clear F43 V14
              dsimp only
              ((with_reducible refine Mine.hide fun G9 hG9 => ?_); obtain ⟨kvs, hkv, hkeys, hrv⟩ := hTab; refine hG9 ?_; clear hG9 G9)
              have hlen5 := nextsOf_le r low i
              have hulen : usn.length ≤ 5 := by rw [hIn.length]; exact hlen5
              k_steps
              rename Fr _ _ _ _ => F45
              refine list_loop (l := bn) (vs := usn) (nn := cn9) (fun j m nx => ∃ ou kvu fb, nx = (bn, listOf usn.toArray cn9) :: (du, ou) :: (d, od) :: (D, listOf ys.toArray k9) :: (f, fq) :: (Lg + 1 + 1 + 1 + 1, o4) :: (Lg + 1 + 1 + 1, om_) :: (Lg + 1 + 1, ol_) :: (Lg + 1, of_) :: (dt, ot) :: (ls2 ++ own) ∧ ou.IsDictOf (intKind PG w) kvu ∧ DueInv rs low i n r ((nextsOf r low i).take j) (kvu.map (·.1)) fb ∧ Vars m [(Str.ofString "nexts", .ref bn), (Str.ofString "fine", .bool fb), (Str.ofString "due", .ref du), (Str.ofString "place", .int (i : Int) t), (Str.ofString "reached", .ref d), (Str.ofString "forms", .ref dt), (Str.ofString "rows", .ref D)])
                rfl F45 N43 (.head _) ⟨ou1, _, fineOf r i n, rfl, hu2, DueInv.init, rfl, rfl, rfl, rfl, rfl, rfl, rfl, trivial⟩ ?_ ?_
              · (intro j v m15 nx h15 tk15 own2 hvj hoff2 _ h99 F46 N46; (with_reducible refine Mine.hide fun G9 hG9 => ?_); rcases h99 with ⟨ou, kvu, fb, rfl, hou, hD, V15⟩ <;> (refine hG9 ?_; clear hG9 G9))
                ((with_reducible refine Mine.hide fun G9 hG9 => ?_); obtain ⟨q, tq, rfl, hq⟩ := IntsAre.at hIn j v hvj; refine hG9 ?_; clear hG9 G9)
                have F47 := Fr.vars V15 F46
                have N47 : News g Lg h15 ((bn, listOf usn.toArray cn9) :: (du, ou) :: (d, od) :: (D, listOf ys.toArray k9) :: (f, fq) :: (Lg + 1 + 1 + 1 + 1, o4) :: (Lg + 1 + 1 + 1, om_) :: (Lg + 1 + 1, ol_) :: (Lg + 1, of_) :: (dt, ot) :: ((ls2 ++ own) ++ own2)) := N46
                obtain ⟨x, hx, hRV⟩ := Tab.get (w := w) hkeys hrv (nexts_ok hi hgo9 (List.mem_of_getElem? hq))
                have hnt : (nextsOf r low i).take (j + 1) = (nextsOf r low i).take j ++ [q] := by rw [List.take_add_one, hq]; rfl
                clear F46 N46 F45 N43
                rcases hRV with ⟨rfl, hbadq⟩ | ⟨a, us, c, ms, rfl, hma, hIa, hpa, hra, hfa⟩
                · k_steps
                  rename Fr _ _ _ _ => F48
                  rename News _ _ _ _ => N48
                  exact InvEndG.intro (nx := (bn, listOf usn.toArray cn9) :: (du, ou) :: (d, od) :: (D, listOf ys.toArray k9) :: (f, fq) :: (Lg + 1 + 1 + 1 + 1, o4) :: (Lg + 1 + 1 + 1, om_) :: (Lg + 1 + 1, ol_) :: (Lg + 1, of_) :: (dt, ot) :: (ls2 ++ own)) F48 N48 ⟨.head _, ou, kvu, false, rfl, hou, (by rw [hnt]; exact hD.bad hbadq), rfl, rfl, rfl, rfl, rfl, rfl, rfl, trivial⟩ hoff2 (sub_cons (sub_cons (sub_cons (sub_cons (sub_cons (sub_cons (sub_cons (sub_cons (sub_cons (sub_cons (sub_left))))))))))) (sub_tail (sub_tail (sub_tail (sub_tail (sub_tail (sub_tail (sub_tail (sub_tail (sub_tail (sub_tail (sub_right)))))))))))
                · k_steps
                  rename Fr _ _ _ _ => F48
                  have hkul := DueInv.len hou hD hil
                  have hmsl := ms_len hpa hra
                  have hdt9 : dt ≠ du := Nat.ne_of_lt (hlu (dt, _) (by k_mem))
                  have hc49 : Lg + 1 + 1 + 1 + 1 ≠ du := Nat.ne_of_lt (hlu (Lg + 1 + 1 + 1 + 1, _) (by k_mem))
                  have hc39 : Lg + 1 + 1 + 1 ≠ du := Nat.ne_of_lt (hlu (Lg + 1 + 1 + 1, _) (by k_mem))
                  have hc29 : Lg + 1 + 1 ≠ du := Nat.ne_of_lt (hlu (Lg + 1 + 1, _) (by k_mem))
                  have hc19 : Lg + 1 ≠ du := Nat.ne_of_lt (hlu (Lg + 1, _) (by k_mem))
                  have hd9 : d ≠ du := Nat.ne_of_lt hdu1
                  have hf9 : f ≠ du := Nat.ne_of_lt hduf
                  have hD9 : D ≠ du := Nat.ne_of_lt hduD
                  have hbn9 : bn ≠ du := Ne.symm (hbl (du, _) (.head _))
                  refine list_loop (l := a) (vs := us) (nn := c) (fun k m nx => ∃ ou kvu', nx = (bn, listOf usn.toArray cn9) :: (du, ou) :: (d, od) :: (D, listOf ys.toArray k9) :: (f, fq) :: (Lg + 1 + 1 + 1 + 1, o4) :: (Lg + 1 + 1 + 1, om_) :: (Lg + 1 + 1, ol_) :: (Lg + 1, of_) :: (dt, ot) :: ((ls2 ++ own) ++ own2) ∧ ou.IsDictOf (intKind PG w) kvu' ∧ kvu'.length ≤ kvu.length + k ∧ (∀ x, x ∈ kvu'.map (·.1) ↔ x ∈ kvu.map (·.1) ∨ x ∈ ms.take k) ∧ Vars m [(Str.ofString "nexts", .ref bn), (Str.ofString "fine", .bool fb), (Str.ofString "due", .ref du), (Str.ofString "place", .int (i : Int) t), (Str.ofString "reached", .ref d), (Str.ofString "forms", .ref dt), (Str.ofString "rows", .ref D)])
                    rfl F48 N47 (.tail _ (.tail _ (.tail _ (.tail _ (.tail _ (.tail _ (.tail _ (.tail _ (.tail _ (.tail _ (List.mem_append_left _ (List.mem_append_left _ hma)))))))))))) ⟨ou, kvu, rfl, hou, Nat.le_refl _, (fun x => by simp), rfl, rfl, rfl, rfl, rfl, rfl, rfl, trivial⟩ ?_ ?_
                  · (intro k v m16 nx h16 tk16 own3 hvk hoff3 _ h99 F49 N49; (with_reducible refine Mine.hide fun G9 hG9 => ?_); rcases h99 with ⟨ou2, kvu2, rfl, hou2, hkl2, hks2, V16⟩ <;> (refine hG9 ?_; clear hG9 G9))
                    ((with_reducible refine Mine.hide fun G9 hG9 => ?_); obtain ⟨z, tz, rfl, hz⟩ := IntsAre.at hIa k v hvk; refine hG9 ?_; clear hG9 G9)
                    have hkm : k < ms.length := (List.getElem?_eq_some_iff.mp hz).1
                    have F50 := Fr.vars V16 F49
                    have N50 : News g Lg h16 ((bn, listOf usn.toArray cn9) :: (du, ou2) :: (d, od) :: (D, listOf ys.toArray k9) :: (f, fq) :: (Lg + 1 + 1 + 1 + 1, o4) :: (Lg + 1 + 1 + 1, om_) :: (Lg + 1 + 1, ol_) :: (Lg + 1, of_) :: (dt, ot) :: (((ls2 ++ own) ++ own2) ++ own3)) := N49
                    have e1 : ∀ p ∈ ((ls2 ++ own) ++ own2) ++ own3, p.1 ≠ du := fun p hp => by
                      rcases List.mem_append.mp hp with hp | hp
                      · rcases List.mem_append.mp hp with hp | hp
                        · exact Nat.ne_of_lt (hlu2 p hp)
                        · exact hoff2 p hp du (.tail _ (.head _))
                      · exact hoff3 p hp du (.tail _ (.head _))
                    have hkl3 : kvu2.length ≤ 100 := by omega
                    clear F49 N49 F48 N47
                    k_steps
                    rename Fr _ _ _ _ => F53
                    rename News _ _ _ _ => N53
                    rename Obj.IsDictOf (intKind PG w) _ (stored _ _ _) => hou3
                    rename_i h17 ou3
                    refine InvEndG.intro (nx := (bn, listOf usn.toArray cn9) :: (du, ou3) :: (d, od) :: (D, listOf ys.toArray k9) :: (f, fq) :: (Lg + 1 + 1 + 1 + 1, o4) :: (Lg + 1 + 1 + 1, om_) :: (Lg + 1 + 1, ol_) :: (Lg + 1, of_) :: (dt, ot) :: ((ls2 ++ own) ++ own2)) F53 N53 ⟨.tail _ (.tail _ (.tail _ (.tail _ (.tail _ (.tail _ (.tail _ (.tail _ (.tail _ (.tail _ (List.mem_append_left _ (List.mem_append_left _ hma))))))))))), ou3, _, rfl, hou3, ?_, ?_, rfl, rfl, rfl, rfl, rfl, rfl, rfl, trivial⟩ hoff3 (sub_cons (sub_cons (sub_cons (sub_cons (sub_cons (sub_cons (sub_cons (sub_cons (sub_cons (sub_cons (sub_left))))))))))) (sub_tail (sub_tail (sub_tail (sub_tail (sub_tail (sub_tail (sub_tail (sub_tail (sub_tail (sub_tail (sub_right)))))))))))
                    · exact Nat.le_trans stored_len (by omega)
                    · intro x
                      rw [stored_keys, hks2, List.take_add_one, hz]
                      simp only [Option.toList_some, List.mem_append, List.mem_singleton, or_assoc]
                  · (intro m16 nx h16 tk16 h99 F49 N49; (with_reducible refine Mine.hide fun G9 hG9 => ?_); rcases h99 with ⟨ou2, kvu2, rfl, hou2, hkl2, hks2, V16⟩ <;> (refine hG9 ?_; clear hG9 G9))
                    have F50 := Fr.vars' V16 F49
                    have hks3 : ∀ x, x ∈ kvu2.map (·.1) ↔ x ∈ kvu.map (·.1) ∨ x ∈ ms := by
                      rw [hIa.length, List.take_length] at hks2
                      exact hks2
                    clear F49 F48 N47
                    k_steps
                    exact InvEndG.intro (nx := (bn, listOf usn.toArray cn9) :: (du, ou2) :: (d, od) :: (D, listOf ys.toArray k9) :: (f, fq) :: (Lg + 1 + 1 + 1 + 1, o4) :: (Lg + 1 + 1 + 1, om_) :: (Lg + 1 + 1, ol_) :: (Lg + 1, of_) :: (dt, ot) :: (ls2 ++ own)) F50 N49 ⟨.head _, ou2, kvu2, fb, rfl, hou2, (by rw [hnt]; exact hD.good hfa hra hks3), rfl, rfl, rfl, rfl, rfl, rfl, rfl, trivial⟩ hoff2 (sub_cons (sub_cons (sub_cons (sub_cons (sub_cons (sub_cons (sub_cons (sub_cons (sub_cons (sub_cons (sub_left))))))))))) (sub_tail (sub_tail (sub_tail (sub_tail (sub_tail (sub_tail (sub_tail (sub_tail (sub_tail (sub_tail (sub_right)))))))))))
              · (intro m15 nx h15 tk15 h99 F46 N46; (with_reducible refine Mine.hide fun G9 hG9 => ?_); rcases h99 with ⟨ou, kvu, fb, rfl, hou, hD, V15⟩ <;> (refine hG9 ?_; clear hG9 G9))
                have F47 := Fr.vars' V15 F46
                have hD2 : DueInv rs low i n r (nextsOf r low i) (kvu.map (·.1)) fb := by
                  rw [hIn.length, List.take_length] at hD
                  exact hD
                have hkul := DueInv.len hou hD2 hil
                obtain ⟨x, hx, hRV⟩ := Tab.get (w := w) hkeys hrv (.inr ⟨by omega, by omega⟩ : OkG low n (low + (i : Int)))
                have hfe := faulty_eq (low := low) hri
                rw [hrl] at hfe
                have hre := fun y => reach_eq (low := low) (x := y) hri
                clear F46 F45 N43 hD
                rcases hRV with ⟨rfl, hbadq⟩ | ⟨a, us, c, ms, rfl, hma, hIa, hpa, hra, hfa⟩
                · obtain rfl : fb = false := by
                    cases fb with
                    | false => rfl
                    | true => exact absurd hbadq (hfe.mpr (hD2.fine.mp rfl))
                  k_steps
                  exact InvEndG.intro (nx := (d, od) :: (D, listOf ys.toArray k9) :: (f, fq) :: (Lg + 1 + 1 + 1 + 1, o4) :: (Lg + 1 + 1 + 1, om_) :: (Lg + 1 + 1, ol_) :: (Lg + 1, of_) :: (dt, ot) :: ls2) F47 N46 ⟨rfl, rfl, rfl, rfl, trivial⟩ hoff (fun p hp => .tail _ (.tail _ ((sub_cons (sub_cons (sub_cons (sub_cons (sub_cons (sub_cons (sub_cons (sub_cons (sub_left))))))))) p hp))) (fun p hp => .tail _ (.tail _ (.tail _ (.tail _ (.tail _ (.tail _ (.tail _ (.tail _ (.tail _ (.tail _ (List.mem_append_right _ hp)))))))))))
                · obtain rfl : fb = true := hD2.fine.mpr (hfe.mp hfa)
                  k_steps
                  refine sorted_dict (kvs := kvu) (by rfl) F47 N46 (.tail _ (.head _)) hou lou (by omega) ?_
                  intro D9 us9 ns9 c9 h49 tk49 F48 N48 hD9 hI9 hp9 hs9
                  dsimp only
                  have N49 : News g Lg h49 ((a, listOf us.toArray c) :: (D9, listOf us9.toArray c9) :: (bn, listOf usn.toArray cn9) :: (du, ou) :: (d, od) :: (D, listOf ys.toArray k9) :: (f, fq) :: (Lg + 1 + 1 + 1 + 1, o4) :: (Lg + 1 + 1 + 1, om_) :: (Lg + 1 + 1, ol_) :: (Lg + 1, of_) :: (dt, ot) :: (ls2 ++ own)) := fun p hp => (List.mem_cons.mp hp).elim (fun e => e ▸ N48 _ (.tail _ (.tail _ (.tail _ (.tail _ (.tail _ (.tail _ (.tail _ (.tail _ (.tail _ (.tail _ (.tail _ (List.mem_append_left _ hma))))))))))))) fun hp => N48 p hp
                  have hsame : ms = ns9 := strict_eq hpa ((hs9.and (hp9.nodup_iff.mpr (dict_nodup hou) : ns9.Pairwise (· ≠ ·))).imp fun {a b} h => by omega) fun y => by
                    rw [hra, hp9.mem_iff, hD2.mem, hre]
                    constructor
                    · rintro (e | ⟨q, h1, h2⟩)
                      · exact .inl e
                      · exact .inr ⟨q, h1, (hD2.fine.mp rfl).2 q h1, h2⟩
                    · rintro (e | ⟨q, h1, _, h2⟩)
                      · exact .inl e
                      · exact .inr ⟨q, h1, h2⟩
                  have hul9 : us.length ≤ 30 := by rw [hIa.length]; exact Nat.le_trans (ms_len hpa hra) (by omega)
                  have hul8 : us9.length ≤ 30 := by rw [hI9.length, ← hsame]; exact Nat.le_trans (ms_len hpa hra) (by omega)
                  clear N48 N46 F47
                  k_steps
                  exact InvEndG.intro (nx := (d, od) :: (D, listOf ys.toArray k9) :: (f, fq) :: (Lg + 1 + 1 + 1 + 1, o4) :: (Lg + 1 + 1 + 1, om_) :: (Lg + 1 + 1, ol_) :: (Lg + 1, of_) :: (dt, ot) :: ls2) F48 N49 ⟨rfl, rfl, rfl, rfl, trivial⟩ hoff (fun p hp => .tail _ (.tail _ (.tail _ (.tail _ ((sub_cons (sub_cons (sub_cons (sub_cons (sub_cons (sub_cons (sub_cons (sub_cons (sub_left))))))))) p hp))))) (fun p hp => .tail _ (.tail _ (.tail _ (.tail _ (.tail _ (.tail _ (.tail _ (.tail _ (.tail _ (.tail _ (.tail _ (.tail _ (List.mem_append_right _ hp)))))))))))))
          · rintro mj nx h30 tk30 ⟨rfl, V⟩ F25 N25
            have F26 := Fr.vars' V F25
            dsimp only
            change wpAny _ _ _ _ _ { s1 with heap := h30, toks := tk30 }
            clear F25 F24 N24 V hR
            have nf2 : ∀ p ∈ ls2, p.1 ≠ f := fun p hp q => hbad p hp (by rw [q]; exact .tail _ (.head _))
            have nd2 : ∀ p ∈ ls2, p.1 ≠ d := fun p hp q => hbad p hp (by rw [q]; exact .head _)
            have nc2 : ∀ p ∈ ls2, p.1 ≠ Lg + 1 + 1 + 1 + 1 := fun p hp q => hbad p hp (by rw [q]; exact .tail _ (.tail _ (.head _)))
            have hdf2 : d ≠ f := Ne.symm hdf
            k_steps
            rename Fr _ _ _ _ => F31
            rename News _ _ _ _ => N31
            rename Figs _ => hfp
            rename_i ip tp fp h31 tk31 hip0 hip1 h32
            obtain ⟨p, rfl⟩ : ∃ p : Nat, ip = (p : Int) := ⟨ip.toNat, by omega⟩
            have hpn : p < n := by omega
            obtain ⟨ts, F32⟩ : ∃ ts, Fr g Lg h32 (fun y => if y = Str.ofString "start" then some (.int (low + (p : Int)) ts) else over [(Str.ofString "reached", .ref d), (Str.ofString "forms", .ref dt), (Str.ofString "rows", .ref D)] mj y) := ⟨_, F31⟩
            ((with_reducible refine Mine.hide fun G9 hG9 => ?_); obtain ⟨kvs, hkv, hkeys, hrv⟩ := hTab; refine hG9 ?_; clear hG9 G9)
            obtain ⟨x, hx, hRV⟩ := Tab.get (w := w) hkeys hrv (.inr ⟨by omega, by omega⟩ : OkG low n (low + (p : Int)))
            have hyl : ys.length = rs.length := hrw.1
            clear F31 F26 N25
            refine Stop.mk ?_
            refine join_stmt (LawMid w s1 g Lg [(Str.ofString "start", .int (low + (p : Int)) ts), (Str.ofString "reached", .ref d), (Str.ofString "forms", .ref dt), (Str.ofString "rows", .ref D)] [(d, od), (D, listOf ys.toArray k9), (f, fp), (Lg + 1 + 1 + 1 + 1, o4), (Lg + 1 + 1 + 1, om_), (Lg + 1 + 1, ol_), (Lg + 1, of_), (dt, ot)] ls2) ?_ ?_
            · refine wpAny_If ?_
              rcases hRV with ⟨rfl, hbadq⟩ | ⟨a, us, c, ms, rfl, hma, hIa, hpa, hra, hfa⟩
              · k_steps
                exact ⟨rfl, _, _, _, rfl, F32, ⟨rfl, rfl, rfl, rfl, trivial⟩, N31⟩
              · k_steps
                rename Fr _ _ _ _ => F33
                rename News _ _ _ _ => N33
                rename IsRange _ _ _ _ _ _ _ _ => hR
                rename _ ∧ _ ∧ _ ∧ _ ∧ _ ∧ _ ∧ _ ∧ _ ∧ AllLt _ _ => hlb
                rename_i bo h33 h34 h35 tk35 u1 u2 u3 hK
                have hb1 : d ≠ bo := Nat.ne_of_lt hlb.1
                have hb2 : D ≠ bo := Nat.ne_of_lt hlb.2.1
                have hb3 : f ≠ bo := Nat.ne_of_lt hlb.2.2.1
                have hb4 : Lg + 1 + 1 + 1 + 1 ≠ bo := Nat.ne_of_lt hlb.2.2.2.1
                have hb5 : Lg + 1 + 1 + 1 ≠ bo := Nat.ne_of_lt hlb.2.2.2.2.1
                have hb6 : Lg + 1 + 1 ≠ bo := Nat.ne_of_lt hlb.2.2.2.2.2.1
                have hb7 : Lg + 1 ≠ bo := Nat.ne_of_lt hlb.2.2.2.2.2.2.1
                have hb8 : dt ≠ bo := Nat.ne_of_lt hlb.2.2.2.2.2.2.2.1
                have hb9 : ∀ p ∈ ls2, p.1 ≠ bo := lt_ne (allLt_lt hlb.2.2.2.2.2.2.2.2)
                have hab : a ≠ bo := hb9 _ hma
                have hmsl := ms_len hpa hra
                have husl : us.length ≤ 30 := by rw [hIa.length]; omega
                refine range_loop (n := n) (fun j m nx => ∃ os c qs ls3, nx = (bo, listOf os.toArray c) :: (d, od) :: (D, listOf ys.toArray k9) :: (f, fp) :: (Lg + 1 + 1 + 1 + 1, o4) :: (Lg + 1 + 1 + 1, om_) :: (Lg + 1 + 1, ol_) :: (Lg + 1, of_) :: (dt, ot) :: ls3 ∧ Others rs qs low ms j ∧ RowsAt w ls3 os qs ∧ (∀ p ∈ ls2, p ∈ ls3) ∧ (∀ p ∈ ls3, p.1 ≠ bo) ∧ Vars m [(Str.ofString "others", .ref bo), (Str.ofString "start", .int (low + (p : Int)) ts), (Str.ofString "reached", .ref d), (Str.ofString "forms", .ref dt), (Str.ofString "rows", .ref D)])
                  rfl hR rfl (by omega) F33 N33 ⟨[], 0, [], ls2, rfl, Others.nil, ⟨rfl, fun k r h => by simp at h⟩, (fun p hp => hp), hb9, rfl, rfl, rfl, rfl, rfl, trivial⟩ ?_ ?_
                · (intro j t m6 nx h6 tk6 own hj hoff h99 F34 N34; (with_reducible refine Mine.hide fun G9 hG9 => ?_); rcases h99 with ⟨os, co, qs, ls3, rfl, hO, hrq, hs3, hb10, V6⟩ <;> (refine hG9 ?_; clear hG9 G9))
                  have F35 := Fr.vars V6 F34
                  have N35 : News g Lg h6 ((a, listOf us.toArray c) :: (bo, listOf os.toArray co) :: (d, od) :: (D, listOf ys.toArray k9) :: (f, fp) :: (Lg + 1 + 1 + 1 + 1, o4) :: (Lg + 1 + 1 + 1, om_) :: (Lg + 1 + 1, ol_) :: (Lg + 1, of_) :: (dt, ot) :: (ls3 ++ own)) := fun q hq => (List.mem_cons.mp hq).elim (fun e => e ▸ N34 _ (.tail _ (.tail _ (.tail _ (.tail _ (.tail _ (.tail _ (.tail _ (.tail _ (.tail _ (List.mem_append_left _ (hs3 _ hma)))))))))))) fun hq => N34 q hq
                  have hjl : j < rs.length := by omega
                  have hrj : rs[j]? = some rs[j] := List.getElem?_eq_getElem hjl
                  obtain ⟨v, hv, hrow⟩ := hrw.2 j _ hrj
                  generalize rs[j] = r at hrj hrow
                  ((with_reducible refine Mine.hide fun G9 hG9 => ?_); obtain ⟨av, t0, rest, n0, rfl, hmv⟩ := row_head hrow; refine hG9 ?_; clear hG9 G9)
                  have hv2 : ys[((j : Nat) : Int).toNat]? = some (.ref av) := by rw [Int.toNat_natCast]; exact hv
                  have hosl : os.length ≤ 30 := by rw [hrq.1, hO.1]; omega
                  have hb11 : ∀ p ∈ ls3 ++ own, p.1 ≠ bo := fun q hq => (List.mem_append.mp hq).elim (hb10 q) fun hq => hoff q hq bo (.head _)
                  clear F34 N34 F33 N33
                  k_steps
                  · rename Fr _ _ _ _ => F36
                    rename News _ _ _ _ => N36
                    rename (List.any ms fun x => x == low + (j : Int)) = true => hany
                    rw [List.push_toArray] at N36
                    exact InvEndG.intro (nx := (bo, listOf (os ++ [Value.ref av]).toArray (co + 1)) :: (d, od) :: (D, listOf ys.toArray k9) :: (f, fp) :: (Lg + 1 + 1 + 1 + 1, o4) :: (Lg + 1 + 1 + 1, om_) :: (Lg + 1 + 1, ol_) :: (Lg + 1, of_) :: (dt, ot) :: ls3) F36 N36 ⟨os ++ [_], _, qs ++ [r], ls3, rfl, hO.snoc hrj (by rw [if_pos (any_mem hany)]), RowsAt.push hrq (hrow.mono hs3), hs3, hb10, rfl, rfl, rfl, rfl, rfl, trivial⟩ hoff (fun q hq => .tail _ ((sub_cons (sub_cons (sub_cons (sub_cons (sub_cons (sub_cons (sub_cons (sub_cons (sub_cons (sub_left)))))))))) q hq)) (fun q hq => .tail _ (.tail _ (.tail _ (.tail _ (.tail _ (.tail _ (.tail _ (.tail _ (.tail _ (.tail _ (List.mem_append_right _ hq)))))))))))
                  · rename Fr _ _ _ _ => F36
                    rename News _ _ _ _ => N36
                    rename (List.any ms fun x => x == low + (j : Int)) = false => hany
                    rename _ ∧ _ ∧ _ ∧ _ ∧ _ ∧ _ ∧ _ ∧ _ ∧ _ ∧ _ ∧ AllLt _ _ => hlD
                    rename_i Dt h36 h37
                    rw [List.push_toArray] at N36
                    obtain ⟨tz, N38⟩ : ∃ tz : Tok, News g Lg h37 ((Dt, tupO [S "catch_push" tz] 0) :: (a, listOf us.toArray c) :: (bo, listOf (os ++ [Value.ref Dt]).toArray (co + 1)) :: (d, od) :: (D, listOf ys.toArray k9) :: (f, fp) :: (Lg + 1 + 1 + 1 + 1, o4) :: (Lg + 1 + 1 + 1, om_) :: (Lg + 1 + 1, ol_) :: (Lg + 1, of_) :: (dt, ot) :: (ls3 ++ own)) := ⟨_, N36⟩
                    have hDo := allLt_lt hlD.2.2.2.2.2.2.2.2.2.2
                    refine InvEndG.intro (nx := (bo, listOf (os ++ [Value.ref Dt]).toArray (co + 1)) :: (d, od) :: (D, listOf ys.toArray k9) :: (f, fp) :: (Lg + 1 + 1 + 1 + 1, o4) :: (Lg + 1 + 1 + 1, om_) :: (Lg + 1 + 1, ol_) :: (Lg + 1, of_) :: (dt, ot) :: (Dt, tupO [S "catch_push" tz] 0) :: ls3) F36 N38 ⟨os ++ [_], _, qs ++ [.push], _, rfl, hO.snoc hrj (by rw [if_neg (any_not hany)]), RowsAt.push (RowsAt.mono hrq fun q hq => .tail _ hq) (.push (.head _)), (fun q hq => .tail _ (hs3 q hq)), ?_, rfl, rfl, rfl, rfl, rfl, trivial⟩ ?_ ?_ ?_
                    · intro q hq
                      rcases List.mem_cons.mp hq with rfl | hq
                      · exact Nat.ne_of_gt hlD.2.1
                      · exact hb10 q hq
                    · exact off_add (pre := (bo, listOf os.toArray co) :: [(d, od), (D, listOf ys.toArray k9), (f, fp), (Lg + 1 + 1 + 1 + 1, o4), (Lg + 1 + 1 + 1, om_), (Lg + 1 + 1, ol_), (Lg + 1, of_), (dt, ot)]) hoff fun q hq => hDo q (List.mem_append_right _ hq)
                    · intro q hq
                      rcases List.mem_append.mp (show q ∈ ((bo, listOf (os ++ [Value.ref Dt]).toArray (co + 1)) :: [(d, od), (D, listOf ys.toArray k9), (f, fp), (Lg + 1 + 1 + 1 + 1, o4), (Lg + 1 + 1 + 1, om_), (Lg + 1 + 1, ol_), (Lg + 1, of_), (dt, ot)]) ++ ((Dt, tupO [S "catch_push" tz] 0) :: ls3) from hq) with hq | hq
                      · exact .tail _ (.tail _ (List.mem_append_left (ls3 ++ own) hq))
                      rcases List.mem_cons.mp hq with rfl | hq
                      · exact .head _
                      · exact .tail _ (.tail _ (.tail _ (.tail _ (.tail _ (.tail _ (.tail _ (.tail _ (.tail _ (.tail _ (.tail _ (List.mem_append_left _ hq)))))))))))
                    · exact fun q hq => .tail _ (.tail _ (.tail _ (.tail _ (.tail _ (.tail _ (.tail _ (.tail _ (.tail _ (.tail _ (.tail _ (List.mem_append_right _ hq)))))))))))
                · (intro m6 nx h6 tk6 h99 F34 N34; (with_reducible refine Mine.hide fun G9 hG9 => ?_); rcases h99 with ⟨os, co, qs, ls3, rfl, hO, hrq, hs3, hb10, V6⟩ <;> (refine hG9 ?_; clear hG9 G9))
                  have F35 := Fr.vars' V6 F34
                  rw [← hrl] at hO
                  clear F34 F33 N33
                  have hql : qs.length ≤ 30 := by rw [hO.1]; omega
                  k_steps
                  (refine Mine.Stop.mk ?_; k_dflt (refine' Mine.SpecT.use (reached_spec w bo os co low (low + (p : Int)) tlow ts qs ((bo, listOf os.toArray co) :: (d, od) :: (D, listOf ys.toArray k9) :: (f, fp) :: (Lg + 1 + 1 + 1 + 1, o4) :: (Lg + 1 + 1 + 1, om_) :: (Lg + 1 + 1, ol_) :: (Lg + 1, of_) :: (dt, ot) :: ls3) (.head _) (RowsAt.mono hrq fun q hq => .tail _ (.tail _ (.tail _ (.tail _ (.tail _ (.tail _ (.tail _ (.tail _ (.tail _ (hq)))))))))) hql (fun news => shapes_spec w news)) ?k1 ?k2 ?k3 ?k10 ?k4 ?k5 ?k11 ?k6 ?k7 ?k8 ?k9 ?_; (case k1 => k_asm); (case k2 => k_asm); (case k3 => k_asm); (case k10 => k_asm); (case k4 => k_asm); (case k5 => k_asm); (case k11 => k_asm); (case k6 => first | exact rfl | assumption); (case k7 => walk_at "m:sub"); (case k8 => ktr_room); (case k9 => ktr_units)))
                  (intro x5 l5 h7 tk7 F36 N36 h99; (with_reducible refine Mine.hide fun G9 hG9 => ?_); rcases h99 with (⟨_, hbad5, _⟩ | ⟨ms5, ⟨a5, us5, c5, rfl, hm5, hI5, hs5, hl5⟩, hp5, hr5, hf5⟩) <;> (refine hG9 ?_; clear hG9 G9))
                  · exact absurd hbad5 (others_fine hO hra hfa)
                  have hsame : ms5 = ms := strict_eq hp5 hpa fun y => by rw [hr5, hra]; exact others_reach hO hra y
                  have N37 : News g Lg h7 ((a5, listOf us5.toArray c5) :: (a, listOf us.toArray c) :: (d, od) :: (D, listOf ys.toArray k9) :: (f, fp) :: (Lg + 1 + 1 + 1 + 1, o4) :: (Lg + 1 + 1 + 1, om_) :: (Lg + 1 + 1, ol_) :: (Lg + 1, of_) :: (dt, ot) :: ls2) := fun q hq => by
                    rcases List.mem_cons.mp hq with rfl | hq
                    · exact N36 _ hm5
                    rcases List.mem_cons.mp hq with rfl | hq
                    · exact N36 _ (hs5 _ (.tail _ (.tail _ (.tail _ (.tail _ (.tail _ (.tail _ (.tail _ (.tail _ (.tail _ (hs3 _ hma)))))))))))
                    · exact N36 q (hs5 q (.tail _ ((show ∀ q ∈ [(d, od), (D, listOf ys.toArray k9), (f, fp), (Lg + 1 + 1 + 1 + 1, o4), (Lg + 1 + 1 + 1, om_), (Lg + 1 + 1, ol_), (Lg + 1, of_), (dt, ot)] ++ ls2, q ∈ [(d, od), (D, listOf ys.toArray k9), (f, fp), (Lg + 1 + 1 + 1 + 1, o4), (Lg + 1 + 1 + 1, om_), (Lg + 1 + 1, ol_), (Lg + 1, of_), (dt, ot)] ++ ls3 from fun q hq => (List.mem_append.mp hq).elim (List.mem_append_left _) fun hq => List.mem_append_right _ (hs3 q hq)) q hq)))
                  have hul5 : us5.length ≤ 30 := by rw [hI5.length, hsame]; omega
                  clear N36 hs5 hl5 hm5 F35 N34
                  k_steps
                  exact ⟨rfl, _, _, _, rfl, F36, ⟨rfl, rfl, rfl, rfl, trivial⟩, fun q hq => N37 q (.tail _ (.tail _ hq))⟩
            · clear N31 F32
              (intro s9 h99; (with_reducible refine Mine.hide fun G9 hG9 => ?_); rcases h99 with ⟨h40, tk40, m40, rfl, F40, V40, N40⟩ <;> (refine hG9 ?_; clear hG9 G9))
              have F41 := Fr.vars' V40 F40
              have N41 : News g Lg h40 ((d, od) :: (D, listOf ys.toArray k9) :: (f, fp) :: (Lg + 1 + 1 + 1 + 1, o4) :: (Lg + 1 + 1 + 1, om_) :: (Lg + 1 + 1, ol_) :: (Lg + 1, of_) :: (dt, ot) :: ls2) := N40
              clear F40 V40 N40
              dsimp only
              k_steps
              rename Fr _ _ _ _ => F42
              rename News _ _ _ _ => N42
              rename Obj.data _ = Data.cell (some (Value.int (1 + _) _)) => hc42
              rename_i i9 t9 fp2 h41 tk41 hfp2 hi90 hi91 h42 o42
              have hrl30' : rs.length ≤ 30 := hrl30
              generalize hstp : 1 + i9 = stp at hc42
              (refine Mine.Stop.mk ?_; k_dflt (refine' Mine.Spec.use (added_spec w D ys k9 stp _ rs ((d, od) :: (D, listOf ys.toArray k9) :: (f, fp2) :: (Lg + 1 + 1 + 1 + 1, o42) :: (Lg + 1 + 1 + 1, om_) :: (Lg + 1 + 1, ol_) :: (Lg + 1, of_) :: (dt, ot) :: ls2) (by k_mem) (RowsAt.mono hrw fun q hq => .tail _ (.tail _ (.tail _ (.tail _ (.tail _ (.tail _ (.tail _ (.tail _ (hq))))))))) hrl30) ?k1 ?k2 ?k3 ?k4 ?k5 ?k6 ?k7 ?k8 ?k9 ?_; (case k1 => k_asm); (case k2 => k_asm); (case k3 => k_asm); (case k4 => k_asm); (case k5 => k_asm); (case k6 => first | exact rfl | assumption); (case k7 => walk_at "m:sub"); (case k8 => ktr_room); (case k9 => ktr_units)))
              (intro _ l6 h43 tk43 F43 N43 h99; (with_reducible refine Mine.hide fun G9 hG9 => ?_); rcases h99 with ⟨ar, vr, cr, rfl, hmr, hrr, hs6⟩ <;> (refine hG9 ?_; clear hG9 G9))
              have N44 : News g Lg h43 ((ar, listOf vr.toArray cr) :: (d, od) :: (D, listOf ys.toArray k9) :: (f, fp2) :: (Lg + 1 + 1 + 1 + 1, o42) :: (Lg + 1 + 1 + 1, om_) :: (Lg + 1 + 1, ol_) :: (Lg + 1, of_) :: (dt, ot) :: (ls2 ++ l6)) := fun q hq => by
                rcases List.mem_cons.mp hq with rfl | hq
                · exact N43 _ hmr
                rcases List.mem_append.mp (show q ∈ ([(d, od), (D, listOf ys.toArray k9), (f, fp2), (Lg + 1 + 1 + 1 + 1, o42), (Lg + 1 + 1 + 1, om_), (Lg + 1 + 1, ol_), (Lg + 1, of_), (dt, ot)] ++ ls2) ++ l6 from hq) with hq | hq
                · exact N43 q (hs6 q hq)
                · exact N43 q hq
              clear N43 hs6 hmr N42 F42
              k_steps
              (refine Mine.Stop.mk ?_; k_dflt (refine' Mine.SpecT.use (reached_spec w ar vr cr (low + stp) (low + (p : Int) + stp) _ _ (rs.map (RowD.shift stp)) ((ar, listOf vr.toArray cr) :: (d, od) :: (D, listOf ys.toArray k9) :: (f, fp2) :: (Lg + 1 + 1 + 1 + 1, o42) :: (Lg + 1 + 1 + 1, om_) :: (Lg + 1 + 1, ol_) :: (Lg + 1, of_) :: (dt, ot) :: (ls2 ++ l6)) (.head _) (RowsAt.mono hrr fun q hq => .tail _ (.tail _ (.tail _ (.tail _ (.tail _ (.tail _ (.tail _ (.tail _ (.tail _ (List.mem_append_right _ hq)))))))))) (by rw [List.length_map]; exact hrl30) (fun news => shapes_spec w news)) ?k1 ?k2 ?k3 ?k10 ?k4 ?k5 ?k11 ?k6 ?k7 ?k8 ?k9 ?_; (case k1 => k_asm); (case k2 => k_asm); (case k3 => k_asm); (case k10 => k_asm); (case k4 => k_asm); (case k5 => k_asm); (case k11 => k_asm); (case k6 => first | exact rfl | assumption); (case k7 => walk_at "m:sub"); (case k8 => ktr_room); (case k9 => ktr_units)))
              rcases hRV with ⟨rfl, hbadq⟩ | ⟨a, us, c, ms, rfl, hma, hIa, hpa, hra, hfa⟩
              · (intro x5 l7 h44 tk44 F44 N45 h99; (with_reducible refine Mine.hide fun G9 hG9 => ?_); rcases h99 with (⟨rfl, _, hs7⟩ | ⟨ms5, _, _, _, hf5⟩) <;> (refine hG9 ?_; clear hG9 G9))
                · have N46 : News g Lg h44 ((d, od) :: (D, listOf ys.toArray k9) :: (f, fp2) :: (Lg + 1 + 1 + 1 + 1, o42) :: (Lg + 1 + 1 + 1, om_) :: (Lg + 1 + 1, ol_) :: (Lg + 1, of_) :: (dt, ot) :: (ls2 ++ l6)) := fun q hq => N45 q (hs7 q (.tail _ hq))
                  clear N45 hs7 N44 F43
                  k_steps
                  show qk (Flow.ret (Value.bool true)) _
                  k_unfold
                  subst hs1
                  wrow_close
                · exact absurd (faulty_shift.mpr hbadq) hf5
              · (intro x5 l7 h44 tk44 F44 N45 h99; (with_reducible refine Mine.hide fun G9 hG9 => ?_); rcases h99 with (⟨rfl, hf5, _⟩ | ⟨ms5, ⟨a5, us5, c5, rfl, hm5, hI5, hs5, hl5⟩, hp5, hr5, hf5⟩) <;> (refine hG9 ?_; clear hG9 G9))
                · exact absurd (faulty_shift.mp hf5) hfa
                have hsame : ms5 = ms.map (· + stp) := strict_eq hp5 (shift_strict hpa) fun y => by rw [hr5, shift_mem hra]
                have N46 : News g Lg h44 ((a5, listOf us5.toArray c5) :: (a, listOf us.toArray c) :: (d, od) :: (D, listOf ys.toArray k9) :: (f, fp2) :: (Lg + 1 + 1 + 1 + 1, o42) :: (Lg + 1 + 1 + 1, om_) :: (Lg + 1 + 1, ol_) :: (Lg + 1, of_) :: (dt, ot) :: (ls2 ++ l6)) := fun q hq => by
                  rcases List.mem_cons.mp hq with rfl | hq
                  · exact N45 _ hm5
                  rcases List.mem_cons.mp hq with rfl | hq
                  · exact N45 _ (hs5 _ (.tail _ (.tail _ (.tail _ (.tail _ (.tail _ (.tail _ (.tail _ (.tail _ (.tail _ (List.mem_append_left _ hma)))))))))))
                  · exact N45 q (hs5 q (.tail _ hq))
                have hmsl := ms_len hpa hra
                have husl : us.length ≤ 30 := by rw [hIa.length]; omega
                have hul5 : us5.length ≤ 30 := by rw [hI5.length, hsame, List.length_map]; omega
                clear N45 hs5 hl5 hm5 N44 F43
                k_steps
                rename Fr _ _ _ _ => F47
                rename News _ _ _ _ => N47
                refine Stop.mk ⟨a, us, c, (a5, listOf us5.toArray c5) :: (a, listOf us.toArray c) :: (d, od) :: (D, listOf ys.toArray k9) :: (f, fp2) :: (Lg + 1 + 1 + 1 + 1, o42) :: (Lg + 1 + 1 + 1, om_) :: (Lg + 1 + 1, ol_) :: (Lg + 1, of_) :: (dt, ot) :: (ls2 ++ l6), (fun i zs nx => nx = (a5, listOf us5.toArray c5) :: (a, listOf us.toArray c) :: (d, od) :: (D, listOf ys.toArray k9) :: (f, fp2) :: (Lg + 1 + 1 + 1 + 1, o42) :: (Lg + 1 + 1 + 1, om_) :: (Lg + 1 + 1, ol_) :: (Lg + 1, of_) :: (dt, ot) :: (ls2 ++ l6) ∧ IntsAre zs ((ms.take i).map (· + stp))), rfl, rfl, F47, N47, .tail _ (.head _), by omega, ⟨rfl, .nil⟩, ?_, ?_⟩
                · rintro i zs nx v I oI C oC D9 m9 h45 tk45 E9 hvi hzl ⟨rfl, hzI⟩ hS hoC hm9 F48 N48 off9 ne9
                  ((with_reducible refine Mine.hide fun G9 hG9 => ?_); obtain ⟨z, tz, rfl, hz⟩ := IntsAre.at hIa i v hvi; refine hG9 ?_; clear hG9 G9)
                  clear F47 N47
                  k_steps
                  exact ⟨h45, _, (a5, listOf us5.toArray c5) :: (a, listOf us.toArray c) :: (d, od) :: (D, listOf ys.toArray k9) :: (f, fp2) :: (Lg + 1 + 1 + 1 + 1, o42) :: (Lg + 1 + 1 + 1, om_) :: (Lg + 1 + 1, ol_) :: (Lg + 1, of_) :: (dt, ot) :: (ls2 ++ l6), rfl, F48, N48, off9, .inr ⟨_, .tail _ (.head _), rfl, _, rfl⟩, rfl, by rw [List.take_add_one, hz, Option.toList_some, List.map_append]; exact ints_push hzI⟩
                · rintro zs nx hzl ⟨rfl, hzI⟩ D9 h45 tk45 F48 N48 off9
                  rw [hIa.length, List.take_length] at hzI
                  have hzl2 : zs.length ≤ 30 := by omega
                  clear F47 N47
                  k_steps
                  rw [decide_eq_true hsame]
                  subst hs1
                  wrow_close
end
end Mine
set_option maxRecDepth 100000 in
set_option maxHeartbeats 8000000 in
theorem PySem.Challenge.cw_sa0141_01_holds : PySem.Challenge.rw_sa0141_01.Holds :=
  Mine.holds
