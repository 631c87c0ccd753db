import PyProof.Rows.All
import Wide.All
import OpenK.AllK
import Wide.FinOn
import PySem.Challenge.RW_tk0119_01
open PySem PySem.W PySem.Calls PyProof.Rows
set_option Elab.async false
set_option maxRecDepth 100000
namespace Mine

/-- a statement of the text's top, and one of a class's body -/
noncomputable def stA (i : Nat) : Stmt := PySem.Challenge.pw_tk0119_01.main.body.getD i (Stmt.Pass ⟨0, 0, 0, 0⟩)
noncomputable def stB (i j : Nat) : Stmt := match stA i with
  | Stmt.ClassDef (body := b) .. => b.getD j (Stmt.Pass ⟨0, 0, 0, 0⟩)
  | s => s
noncomputable def argsS : Stmt → Arguments
  | Stmt.FunctionDef (args := a) .. => a
  | _ => { posonlyargs := [], args := [], vararg := none, kwonlyargs := [], kw_defaults := [], kwarg := none, defaults := [] }
noncomputable def bodyS : Stmt → List Stmt
  | Stmt.FunctionDef (body := b) .. => b
  | _ => []
noncomputable def scopeS : Stmt → Scope
  | Stmt.FunctionDef (scope := c) .. => c
  | _ => { kind := ScopeKind.function, names := [], isGenerator := false, isCoroutine := false }
/-- a def that stands at the top; its parts are read off the text, and written out where they stand -/
noncomputable abbrev fnX (st : Stmt) {ps : Arguments} {bd : List Stmt} {sc : Scope} (name qual : Str) (globals : Addr) (closure : List (Str × Addr)) (dV kV doc pm : Value) (an : Option Addr) (code ct : Value) (bi : Addr)
    (_ : argsS st = ps := by conv => lhs; whnf) (_ : bodyS st = bd := by conv => lhs; whnf) (_ : scopeS st = sc := by conv => lhs; whnf) : Obj :=
  { cls := Value.type "function", data := Data.func { name := name, qualname := qual, params := ps, body := FuncBody.stmts bd, scope := sc, globals := globals, closure := closure, defaults := dV, kwdefaults := kV, doc := doc, pyModule := pm, annotations := an, code := code, closureTuple := ct, builtins := bi } }
set_option maxHeartbeats 8000000 in
noncomputable def hd.heap_39 : Params → Frag := fun P =>
  (nat_lit 2, { cls := Value.none, data := Data.dict #[] }) ::
  (nat_lit 3, { cls := Value.type "dict", data := Data.dict #[{ hash := PyData.keyHash P (Str.ofString "__name__"), key := Value.str (Str.ofString "__name__") 165, val := Value.str (Str.ofString "law_tk0119_01") 494 }, { hash := PyData.keyHash P (Str.ofString "__doc__"), key := Value.str (Str.ofString "__doc__") 166, val := Value.none }, { hash := PyData.keyHash P (Str.ofString "__package__"), key := Value.str (Str.ofString "__package__") 167, val := Value.none }, { hash := PyData.keyHash P (Str.ofString "__loader__"), key := Value.str (Str.ofString "__loader__") 168, val := Value.builtin "__main__.__loader__#opaque" }, { hash := PyData.keyHash P (Str.ofString "__spec__"), key := Value.str (Str.ofString "__spec__") 169, val := Value.none }, { hash := PyData.keyHash P (Str.ofString "__annotations__"), key := Value.str (Str.ofString "__annotations__") 170, val := Value.ref 6 }, { hash := PyData.keyHash P (Str.ofString "__builtins__"), key := Value.str (Str.ofString "__builtins__") 171, val := Value.ref 4 }, { hash := PyData.keyHash P (Str.ofString "__file__"), key := Value.str (Str.ofString "__file__") 173, val := Value.str (Str.ofString "/claim/cut.py") 172 }, { hash := PyData.keyHash P (Str.ofString "__cached__"), key := Value.str (Str.ofString "__cached__") 174, val := Value.none }, { hash := PyData.keyHash P (Str.ofString "_wall"), key := Value.str (Str.ofString "_wall") 193, val := Value.ref 21 }, { hash := PyData.keyHash P (Str.ofString "PressError"), key := Value.str (Str.ofString "PressError") 223, val := Value.ref 39 }, { hash := PyData.keyHash P (Str.ofString "BadSequence"), key := Value.str (Str.ofString "BadSequence") 239, val := Value.ref 52 }, { hash := PyData.keyHash P (Str.ofString "BadArgument"), key := Value.str (Str.ofString "BadArgument") 255, val := Value.ref 64 }, { hash := PyData.keyHash P (Str.ofString "Offsets"), key := Value.str (Str.ofString "Offsets") 348, val := Value.ref 126 }, { hash := PyData.keyHash P (Str.ofString "LEAST_MATCH"), key := Value.str (Str.ofString "LEAST_MATCH") 352, val := Value.int 2 351 }, { hash := PyData.keyHash P (Str.ofString "MOST_MATCH"), key := Value.str (Str.ofString "MOST_MATCH") 354, val := Value.int 273 353 }, { hash := PyData.keyHash P (Str.ofString "Reps"), key := Value.str (Str.ofString "Reps") 425, val := Value.ref 184 }, { hash := PyData.keyHash P (Str.ofString "KINDS"), key := Value.str (Str.ofString "KINDS") 432, val := Value.ref 189 }, { hash := PyData.keyHash P (Str.ofString "need_whole"), key := Value.str (Str.ofString "need_whole") 440, val := Value.ref 196 }, { hash := PyData.keyHash P (Str.ofString "need_number"), key := Value.str (Str.ofString "need_number") 450, val := Value.ref 203 }, { hash := PyData.keyHash P (Str.ofString "step_length"), key := Value.str (Str.ofString "step_length") 457, val := Value.ref 210 }, { hash := PyData.keyHash P (Str.ofString "LITERAL"), key := Value.str (Str.ofString "LITERAL") 461, val := Value.ref 211 }, { hash := PyData.keyHash P (Str.ofString "distance_of"), key := Value.str (Str.ofString "distance_of") 469, val := Value.ref 218 }, { hash := PyData.keyHash P (Str.ofString "cut_length"), key := Value.str (Str.ofString "cut_length") 478, val := Value.ref 225 }, { hash := PyData.keyHash P (Str.ofString "steps_of_plain"), key := Value.str (Str.ofString "steps_of_plain") 493, val := Value.ref 233 }, { hash := PyData.keyHash P (Str.ofString "_law_jar"), key := Value.str (Str.ofString "_law_jar") 505, val := Value.ref 240 }, { hash := PyData.keyHash P (Str.ofString "_law_take"), key := Value.str (Str.ofString "_law_take") 514, val := Value.ref 247 }, { hash := PyData.keyHash P (Str.ofString "_law_other"), key := Value.str (Str.ofString "_law_other") 520, val := Value.ref 252 }, { hash := PyData.keyHash P (Str.ofString "_law_fars"), key := Value.str (Str.ofString "_law_fars") 526, val := Value.ref 257 }, { hash := PyData.keyHash P (Str.ofString "_law_late"), key := Value.str (Str.ofString "_law_late") 537, val := Value.ref 264 }, { hash := PyData.keyHash P (Str.ofString "_law_row"), key := Value.str (Str.ofString "_law_row") 548, val := Value.ref 271 }, { hash := PyData.keyHash P (Str.ofString "_law_heard"), key := Value.str (Str.ofString "_law_heard") 563, val := Value.ref 278 }, { hash := PyData.keyHash P (Str.ofString "_law_offsets_right"), key := Value.str (Str.ofString "_law_offsets_right") 569, val := Value.ref 283 }, { hash := PyData.keyHash P (Str.ofString "_law_reps_right"), key := Value.str (Str.ofString "_law_reps_right") 575, val := Value.ref 288 }, { hash := PyData.keyHash P (Str.ofString "law"), key := Value.str (Str.ofString "law") 581, val := Value.ref 293 }] 35 }) ::
  (nat_lit 15, { cls := Value.type "tuple", data := Data.seq #[] }) ::
  (nat_lit 17, { cls := Value.type "tuple", data := Data.seq #[Value.str (Str.ofString "k") 190] }) ::
  (nat_lit 18, { cls := Value.type "tuple", data := Data.seq #[] }) ::
  (nat_lit 20, { cls := Value.type "code", data := Data.fields #[Value.str (Str.ofString "_wall") 187, Value.str (Str.ofString "_wall") 188, Value.str (Str.ofString "/claim/cut.py") 189, Value.int 1 0, Value.int 1 0, Value.int 0 0, Value.int 0 0, Value.int 3 0, Value.ref 15, Value.bool true, Value.int 181 0, Value.ref 16, Value.none, Value.ref 17, Value.ref 18, Value.ref 19, Value.int 191 0, Value.int 1 0, Value.str (Str.ofString "/claim/cut.py") 192] }) ::
  (nat_lit 21, fnX (stA 0) (Str.ofString "_wall") (Str.ofString "_wall") (3) ([]) (Value.none) (Value.none) (Value.none) (Value.str (Str.ofString "__main__") 164) (none) (Value.ref 20) (Value.none) (0)) ::
  (nat_lit 22, { cls := Value.type "tuple", data := Data.seq #[Value.type "ValueError"] }) ::
  (nat_lit 29, { cls := Value.type "tuple", data := Data.seq #[Value.str (Str.ofString "") 208] }) ::
  (nat_lit 30, { cls := Value.type "tuple", data := Data.seq #[] }) ::
  (nat_lit 32, { cls := Value.type "tuple", data := Data.seq #[Value.str (Str.ofString "self") 212, Value.str (Str.ofString "reason") 213] }) ::
  (nat_lit 33, { cls := Value.type "tuple", data := Data.seq #[] }) ::
  (nat_lit 35, { cls := Value.type "code", data := Data.fields #[Value.str (Str.ofString "__init__") 209, Value.str (Str.ofString "PressError.__init__") 210, Value.str (Str.ofString "/claim/cut.py") 211, Value.int 7 0, Value.int 2 0, Value.int 0 0, Value.int 0 0, Value.int 3 0, Value.ref 30, Value.bool true, Value.int 181 0, Value.ref 31, Value.none, Value.ref 32, Value.ref 33, Value.ref 34, Value.int 214 0, Value.int 7 0, Value.str (Str.ofString "/claim/cut.py") 215] }) ::
  (nat_lit 36, fnX (stB 2 0) (Str.ofString "__init__") (Str.ofString "PressError.__init__") (3) ([]) (Value.ref 29) (Value.none) (Value.none) (Value.str (Str.ofString "threepress.errors") 194) (none) (Value.ref 35) (Value.none) (0)) ::
  (nat_lit 37, { cls := Value.type "tuple", data := Data.seq #[Value.str (Str.ofString "reason") 217] }) ::
  (nat_lit 38, { cls := Value.type "dict", data := Data.dict #[{ hash := PyData.keyHash P (Str.ofString "__module__"), key := Value.str (Str.ofString "__module__") 203, val := Value.str (Str.ofString "threepress.errors") 194 }, { hash := PyData.keyHash P (Str.ofString "__firstlineno__"), key := Value.str (Str.ofString "__firstlineno__") 207, val := Value.int 5 206 }, { hash := PyData.keyHash P (Str.ofString "__init__"), key := Value.str (Str.ofString "__init__") 216, val := Value.ref 36 }, { hash := PyData.keyHash P (Str.ofString "__static_attributes__"), key := Value.str (Str.ofString "__static_attributes__") 218, val := Value.ref 37 }, { hash := PyData.keyHash P (Str.ofString "__weakref__"), key := Value.str (Str.ofString "__weakref__") 220, val := Value.ref 40 }, { hash := PyData.keyHash P (Str.ofString "__doc__"), key := Value.str (Str.ofString "__doc__") 221, val := Value.none }] 3 }) ::
  (nat_lit 39, { cls := Value.type "type", data := Data.cls { name := Str.ofString "PressError", bases := [Value.type "ValueError"], mro := [Value.ref 39, Value.type "ValueError", Value.type "Exception", Value.type "BaseException", Value.type "object"], ns := 38, qualname := Str.ofString "PressError", subclasses := [Value.ref 52, Value.ref 64] }, slots := #[some (Value.ref 22), none, some (Value.str (Str.ofString "PressError") 196), some (Value.str (Str.ofString "PressError") 204), some (Value.builtin "ValueError.__new__"), some (Value.bool true)] }) ::
  (nat_lit 40, { cls := Value.type "getset_descriptor", data := Data.fields #[Value.str (Str.ofString "__weakref__") 219, Value.ref 39, Value.builtin "ExceptionGroup.__weakref__", Value.none] }) ::
  (nat_lit 43, { cls := Value.type "tuple", data := Data.seq #[Value.ref 39] }) ::
  (nat_lit 50, { cls := Value.type "tuple", data := Data.seq #[] }) ::
  (nat_lit 51, { cls := Value.type "dict", data := Data.dict #[{ hash := PyData.keyHash P (Str.ofString "__module__"), key := Value.str (Str.ofString "__module__") 231, val := Value.str (Str.ofString "threepress.errors") 194 }, { hash := PyData.keyHash P (Str.ofString "__firstlineno__"), key := Value.str (Str.ofString "__firstlineno__") 235, val := Value.int 10 234 }, { hash := PyData.keyHash P (Str.ofString "__static_attributes__"), key := Value.str (Str.ofString "__static_attributes__") 236, val := Value.ref 50 }, { hash := PyData.keyHash P (Str.ofString "__doc__"), key := Value.str (Str.ofString "__doc__") 237, val := Value.none }] 2 }) ::
  (nat_lit 52, { cls := Value.type "type", data := Data.cls { name := Str.ofString "BadSequence", bases := [Value.ref 39], mro := [Value.ref 52, Value.ref 39, Value.type "ValueError", Value.type "Exception", Value.type "BaseException", Value.type "object"], ns := 51, qualname := Str.ofString "BadSequence" }, slots := #[some (Value.ref 43), none, some (Value.str (Str.ofString "BadSequence") 224), some (Value.str (Str.ofString "BadSequence") 232), some (Value.builtin "ValueError.__new__"), some (Value.bool true)] }) ::
  (nat_lit 55, { cls := Value.type "tuple", data := Data.seq #[Value.ref 39] }) ::
  (nat_lit 62, { cls := Value.type "tuple", data := Data.seq #[] }) ::
  (nat_lit 63, { cls := Value.type "dict", data := Data.dict #[{ hash := PyData.keyHash P (Str.ofString "__module__"), key := Value.str (Str.ofString "__module__") 247, val := Value.str (Str.ofString "threepress.errors") 194 }, { hash := PyData.keyHash P (Str.ofString "__firstlineno__"), key := Value.str (Str.ofString "__firstlineno__") 251, val := Value.int 12 250 }, { hash := PyData.keyHash P (Str.ofString "__static_attributes__"), key := Value.str (Str.ofString "__static_attributes__") 252, val := Value.ref 62 }, { hash := PyData.keyHash P (Str.ofString "__doc__"), key := Value.str (Str.ofString "__doc__") 253, val := Value.none }] 2 }) ::
  (nat_lit 64, { cls := Value.type "type", data := Data.cls { name := Str.ofString "BadArgument", bases := [Value.ref 39], mro := [Value.ref 64, Value.ref 39, Value.type "ValueError", Value.type "Exception", Value.type "BaseException", Value.type "object"], ns := 63, qualname := Str.ofString "BadArgument" }, slots := #[some (Value.ref 55), none, some (Value.str (Str.ofString "BadArgument") 240), some (Value.str (Str.ofString "BadArgument") 248), some (Value.builtin "ValueError.__new__"), some (Value.bool true)] }) ::
  (nat_lit 74, { cls := Value.type "tuple", data := Data.seq #[Value.int 1 270, Value.int 4 271, Value.int 8 272] }) ::
  (nat_lit 75, { cls := Value.type "tuple", data := Data.seq #[] }) ::
  (nat_lit 77, { cls := Value.type "tuple", data := Data.seq #[Value.str (Str.ofString "self") 276, Value.str (Str.ofString "one") 277, Value.str (Str.ofString "two") 278, Value.str (Str.ofString "three") 279] }) ::
  (nat_lit 78, { cls := Value.type "tuple", data := Data.seq #[] }) ::
  (nat_lit 80, { cls := Value.type "code", data := Data.fields #[Value.str (Str.ofString "__init__") 273, Value.str (Str.ofString "Offsets.__init__") 274, Value.str (Str.ofString "/claim/cut.py") 275, Value.int 17 0, Value.int 4 0, Value.int 0 0, Value.int 0 0, Value.int 3 0, Value.ref 75, Value.bool true, Value.int 181 0, Value.ref 76, Value.none, Value.ref 77, Value.ref 78, Value.ref 79, Value.int 280 0, Value.int 17 0, Value.str (Str.ofString "/claim/cut.py") 281] }) ::
  (nat_lit 81, fnX (stB 6 0) (Str.ofString "__init__") (Str.ofString "Offsets.__init__") (3) ([]) (Value.ref 74) (Value.none) (Value.none) (Value.str (Str.ofString "threepress.zseq") 256) (none) (Value.ref 80) (Value.none) (0)) ::
  (nat_lit 82, { cls := Value.type "tuple", data := Data.seq #[] }) ::
  (nat_lit 84, { cls := Value.type "tuple", data := Data.seq #[Value.str (Str.ofString "self") 286] }) ::
  (nat_lit 85, { cls := Value.type "tuple", data := Data.seq #[] }) ::
  (nat_lit 87, { cls := Value.type "code", data := Data.fields #[Value.str (Str.ofString "row") 283, Value.str (Str.ofString "Offsets.row") 284, Value.str (Str.ofString "/claim/cut.py") 285, Value.int 24 0, Value.int 1 0, Value.int 0 0, Value.int 0 0, Value.int 3 0, Value.ref 82, Value.bool true, Value.int 181 0, Value.ref 83, Value.none, Value.ref 84, Value.ref 85, Value.ref 86, Value.int 287 0, Value.int 24 0, Value.str (Str.ofString "/claim/cut.py") 288] }) ::
  (nat_lit 88, fnX (stB 6 1) (Str.ofString "row") (Str.ofString "Offsets.row") (3) ([]) (Value.none) (Value.none) (Value.none) (Value.str (Str.ofString "threepress.zseq") 256) (none) (Value.ref 87) (Value.none) (0)) ::
  (nat_lit 89, { cls := Value.type "tuple", data := Data.seq #[] }) ::
  (nat_lit 91, { cls := Value.type "tuple", data := Data.seq #[Value.str (Str.ofString "self") 293] }) ::
  (nat_lit 92, { cls := Value.type "tuple", data := Data.seq #[] }) ::
  (nat_lit 94, { cls := Value.type "code", data := Data.fields #[Value.str (Str.ofString "copy") 290, Value.str (Str.ofString "Offsets.copy") 291, Value.str (Str.ofString "/claim/cut.py") 292, Value.int 27 0, Value.int 1 0, Value.int 0 0, Value.int 0 0, Value.int 3 0, Value.ref 89, Value.bool true, Value.int 181 0, Value.ref 90, Value.none, Value.ref 91, Value.ref 92, Value.ref 93, Value.int 294 0, Value.int 27 0, Value.str (Str.ofString "/claim/cut.py") 295] }) ::
  (nat_lit 95, fnX (stB 6 2) (Str.ofString "copy") (Str.ofString "Offsets.copy") (3) ([]) (Value.none) (Value.none) (Value.none) (Value.str (Str.ofString "threepress.zseq") 256) (none) (Value.ref 94) (Value.none) (0)) ::
  (nat_lit 96, { cls := Value.type "tuple", data := Data.seq #[] }) ::
  (nat_lit 98, { cls := Value.type "tuple", data := Data.seq #[Value.str (Str.ofString "self") 300, Value.str (Str.ofString "value") 301, Value.str (Str.ofString "literals") 302, Value.str (Str.ofString "place") 303] }) ::
  (nat_lit 99, { cls := Value.type "tuple", data := Data.seq #[] }) ::
  (nat_lit 101, { cls := Value.type "code", data := Data.fields #[Value.str (Str.ofString "told_by") 297, Value.str (Str.ofString "Offsets.told_by") 298, Value.str (Str.ofString "/claim/cut.py") 299, Value.int 30 0, Value.int 3 0, Value.int 0 0, Value.int 0 0, Value.int 3 0, Value.ref 96, Value.bool true, Value.int 181 0, Value.ref 97, Value.none, Value.ref 98, Value.ref 99, Value.ref 100, Value.int 304 0, Value.int 30 0, Value.str (Str.ofString "/claim/cut.py") 305] }) ::
  (nat_lit 102, fnX (stB 6 3) (Str.ofString "told_by") (Str.ofString "Offsets.told_by") (3) ([]) (Value.none) (Value.none) (Value.none) (Value.str (Str.ofString "threepress.zseq") 256) (none) (Value.ref 101) (Value.none) (0)) ::
  (nat_lit 103, { cls := Value.type "tuple", data := Data.seq #[] }) ::
  (nat_lit 105, { cls := Value.type "tuple", data := Data.seq #[Value.str (Str.ofString "self") 310, Value.str (Str.ofString "distance") 311, Value.str (Str.ofString "place") 312] }) ::
  (nat_lit 106, { cls := Value.type "tuple", data := Data.seq #[] }) ::
  (nat_lit 108, { cls := Value.type "code", data := Data.fields #[Value.str (Str.ofString "move") 307, Value.str (Str.ofString "Offsets.move") 308, Value.str (Str.ofString "/claim/cut.py") 309, Value.int 40 0, Value.int 3 0, Value.int 0 0, Value.int 0 0, Value.int 3 0, Value.ref 103, Value.bool true, Value.int 181 0, Value.ref 104, Value.none, Value.ref 105, Value.ref 106, Value.ref 107, Value.int 313 0, Value.int 40 0, Value.str (Str.ofString "/claim/cut.py") 314] }) ::
  (nat_lit 109, fnX (stB 6 4) (Str.ofString "move") (Str.ofString "Offsets.move") (3) ([]) (Value.none) (Value.none) (Value.none) (Value.str (Str.ofString "threepress.zseq") 256) (none) (Value.ref 108) (Value.none) (0)) ::
  (nat_lit 110, { cls := Value.type "tuple", data := Data.seq #[] }) ::
  (nat_lit 112, { cls := Value.type "tuple", data := Data.seq #[Value.str (Str.ofString "self") 319, Value.str (Str.ofString "value") 320, Value.str (Str.ofString "literals") 321, Value.str (Str.ofString "distance") 322, Value.str (Str.ofString "place") 323] }) ::
  (nat_lit 113, { cls := Value.type "tuple", data := Data.seq #[] }) ::
  (nat_lit 115, { cls := Value.type "code", data := Data.fields #[Value.str (Str.ofString "distance") 316, Value.str (Str.ofString "Offsets.distance") 317, Value.str (Str.ofString "/claim/cut.py") 318, Value.int 46 0, Value.int 3 0, Value.int 0 0, Value.int 0 0, Value.int 3 0, Value.ref 110, Value.bool true, Value.int 181 0, Value.ref 111, Value.none, Value.ref 112, Value.ref 113, Value.ref 114, Value.int 324 0, Value.int 46 0, Value.str (Str.ofString "/claim/cut.py") 325] }) ::
  (nat_lit 116, fnX (stB 6 5) (Str.ofString "distance") (Str.ofString "Offsets.distance") (3) ([]) (Value.none) (Value.none) (Value.none) (Value.str (Str.ofString "threepress.zseq") 256) (none) (Value.ref 115) (Value.none) (0)) ::
  (nat_lit 117, { cls := Value.type "tuple", data := Data.seq #[] }) ::
  (nat_lit 119, { cls := Value.type "tuple", data := Data.seq #[Value.str (Str.ofString "self") 330, Value.str (Str.ofString "distance") 331, Value.str (Str.ofString "literals") 332, Value.str (Str.ofString "value") 333, Value.str (Str.ofString "near") 334] }) ::
  (nat_lit 120, { cls := Value.type "tuple", data := Data.seq #[] }) ::
  (nat_lit 122, { cls := Value.type "code", data := Data.fields #[Value.str (Str.ofString "value") 327, Value.str (Str.ofString "Offsets.value") 328, Value.str (Str.ofString "/claim/cut.py") 329, Value.int 53 0, Value.int 3 0, Value.int 0 0, Value.int 0 0, Value.int 3 0, Value.ref 117, Value.bool true, Value.int 181 0, Value.ref 118, Value.none, Value.ref 119, Value.ref 120, Value.ref 121, Value.int 335 0, Value.int 53 0, Value.str (Str.ofString "/claim/cut.py") 336] }) ::
  (nat_lit 123, fnX (stB 6 6) (Str.ofString "value") (Str.ofString "Offsets.value") (3) ([]) (Value.none) (Value.none) (Value.none) (Value.str (Str.ofString "threepress.zseq") 256) (none) (Value.ref 122) (Value.none) (0)) ::
  (nat_lit 124, { cls := Value.type "tuple", data := Data.seq #[Value.str (Str.ofString "one") 338, Value.str (Str.ofString "three") 339, Value.str (Str.ofString "two") 340] }) ::
  (nat_lit 125, { cls := Value.type "dict", data := Data.dict #[{ hash := PyData.keyHash P (Str.ofString "__module__"), key := Value.str (Str.ofString "__module__") 265, val := Value.str (Str.ofString "threepress.zseq") 256 }, { hash := PyData.keyHash P (Str.ofString "__firstlineno__"), key := Value.str (Str.ofString "__firstlineno__") 269, val := Value.int 15 268 }, { hash := PyData.keyHash P (Str.ofString "__init__"), key := Value.str (Str.ofString "__init__") 282, val := Value.ref 81 }, { hash := PyData.keyHash P (Str.ofString "row"), key := Value.str (Str.ofString "row") 289, val := Value.ref 88 }, { hash := PyData.keyHash P (Str.ofString "copy"), key := Value.str (Str.ofString "copy") 296, val := Value.ref 95 }, { hash := PyData.keyHash P (Str.ofString "told_by"), key := Value.str (Str.ofString "told_by") 306, val := Value.ref 102 }, { hash := PyData.keyHash P (Str.ofString "move"), key := Value.str (Str.ofString "move") 315, val := Value.ref 109 }, { hash := PyData.keyHash P (Str.ofString "distance"), key := Value.str (Str.ofString "distance") 326, val := Value.ref 116 }, { hash := PyData.keyHash P (Str.ofString "value"), key := Value.str (Str.ofString "value") 337, val := Value.ref 123 }, { hash := PyData.keyHash P (Str.ofString "__static_attributes__"), key := Value.str (Str.ofString "__static_attributes__") 341, val := Value.ref 124 }, { hash := PyData.keyHash P (Str.ofString "__dict__"), key := Value.str (Str.ofString "__dict__") 343, val := Value.ref 127 }, { hash := PyData.keyHash P (Str.ofString "__weakref__"), key := Value.str (Str.ofString "__weakref__") 345, val := Value.ref 128 }, { hash := PyData.keyHash P (Str.ofString "__doc__"), key := Value.str (Str.ofString "__doc__") 346, val := Value.none }] 4 }) ::
  (nat_lit 126, { cls := Value.type "type", data := Data.cls { name := Str.ofString "Offsets", bases := [Value.type "object"], mro := [Value.ref 126, Value.type "object"], ns := 125, qualname := Str.ofString "Offsets" }, slots := #[none, none, some (Value.str (Str.ofString "Offsets") 258), some (Value.str (Str.ofString "Offsets") 266), some (Value.builtin "object.__new__"), some (Value.bool true)] }) ::
  (nat_lit 127, { cls := Value.type "getset_descriptor", data := Data.fields #[Value.str (Str.ofString "__dict__") 342, Value.ref 126, Value.builtin "function.__dict__", Value.builtin "function.__dict__#set"] }) ::
  (nat_lit 128, { cls := Value.type "getset_descriptor", data := Data.fields #[Value.str (Str.ofString "__weakref__") 344, Value.ref 126, Value.builtin "ExceptionGroup.__weakref__", Value.none] }) ::
  (nat_lit 138, { cls := Value.type "tuple", data := Data.seq #[Value.int 1 367, Value.int 1 368, Value.int 1 369, Value.int 1 370] }) ::
  (nat_lit 139, { cls := Value.type "tuple", data := Data.seq #[Value.ref 138] }) ::
  (nat_lit 140, { cls := Value.type "tuple", data := Data.seq #[] }) ::
  (nat_lit 142, { cls := Value.type "tuple", data := Data.seq #[Value.str (Str.ofString "self") 374, Value.str (Str.ofString "row") 375] }) ::
  (nat_lit 143, { cls := Value.type "tuple", data := Data.seq #[] }) ::
  (nat_lit 145, { cls := Value.type "code", data := Data.fields #[Value.str (Str.ofString "__init__") 371, Value.str (Str.ofString "Reps.__init__") 372, Value.str (Str.ofString "/claim/cut.py") 373, Value.int 67 0, Value.int 2 0, Value.int 0 0, Value.int 0 0, Value.int 3 0, Value.ref 140, Value.bool true, Value.int 181 0, Value.ref 141, Value.none, Value.ref 142, Value.ref 143, Value.ref 144, Value.int 376 0, Value.int 67 0, Value.str (Str.ofString "/claim/cut.py") 377] }) ::
  (nat_lit 146, fnX (stB 10 0) (Str.ofString "__init__") (Str.ofString "Reps.__init__") (3) ([]) (Value.ref 139) (Value.none) (Value.none) (Value.str (Str.ofString "threepress.lzmastate") 349) (none) (Value.ref 145) (Value.none) (0)) ::
  (nat_lit 147, { cls := Value.type "tuple", data := Data.seq #[] }) ::
  (nat_lit 149, { cls := Value.type "tuple", data := Data.seq #[Value.str (Str.ofString "self") 382] }) ::
  (nat_lit 150, { cls := Value.type "tuple", data := Data.seq #[] }) ::
  (nat_lit 152, { cls := Value.type "code", data := Data.fields #[Value.str (Str.ofString "reset") 379, Value.str (Str.ofString "Reps.reset") 380, Value.str (Str.ofString "/claim/cut.py") 381, Value.int 70 0, Value.int 1 0, Value.int 0 0, Value.int 0 0, Value.int 3 0, Value.ref 147, Value.bool true, Value.int 181 0, Value.ref 148, Value.none, Value.ref 149, Value.ref 150, Value.ref 151, Value.int 383 0, Value.int 70 0, Value.str (Str.ofString "/claim/cut.py") 384] }) ::
  (nat_lit 153, fnX (stB 10 1) (Str.ofString "reset") (Str.ofString "Reps.reset") (3) ([]) (Value.none) (Value.none) (Value.none) (Value.str (Str.ofString "threepress.lzmastate") 349) (none) (Value.ref 152) (Value.none) (0)) ::
  (nat_lit 154, { cls := Value.type "tuple", data := Data.seq #[] }) ::
  (nat_lit 156, { cls := Value.type "tuple", data := Data.seq #[Value.str (Str.ofString "self") 389] }) ::
  (nat_lit 157, { cls := Value.type "tuple", data := Data.seq #[] }) ::
  (nat_lit 159, { cls := Value.type "code", data := Data.fields #[Value.str (Str.ofString "first") 386, Value.str (Str.ofString "Reps.first") 387, Value.str (Str.ofString "/claim/cut.py") 388, Value.int 73 0, Value.int 1 0, Value.int 0 0, Value.int 0 0, Value.int 3 0, Value.ref 154, Value.bool true, Value.int 181 0, Value.ref 155, Value.none, Value.ref 156, Value.ref 157, Value.ref 158, Value.int 390 0, Value.int 73 0, Value.str (Str.ofString "/claim/cut.py") 391] }) ::
  (nat_lit 160, fnX (stB 10 2) (Str.ofString "first") (Str.ofString "Reps.first") (3) ([]) (Value.none) (Value.none) (Value.none) (Value.str (Str.ofString "threepress.lzmastate") 349) (none) (Value.ref 159) (Value.none) (0)) ::
  (nat_lit 161, { cls := Value.type "tuple", data := Data.seq #[] }) ::
  (nat_lit 163, { cls := Value.type "tuple", data := Data.seq #[Value.str (Str.ofString "self") 396, Value.str (Str.ofString "index") 397, Value.str (Str.ofString "distance") 398] }) ::
  (nat_lit 164, { cls := Value.type "tuple", data := Data.seq #[] }) ::
  (nat_lit 166, { cls := Value.type "code", data := Data.fields #[Value.str (Str.ofString "use") 393, Value.str (Str.ofString "Reps.use") 394, Value.str (Str.ofString "/claim/cut.py") 395, Value.int 76 0, Value.int 2 0, Value.int 0 0, Value.int 0 0, Value.int 3 0, Value.ref 161, Value.bool true, Value.int 181 0, Value.ref 162, Value.none, Value.ref 163, Value.ref 164, Value.ref 165, Value.int 399 0, Value.int 76 0, Value.str (Str.ofString "/claim/cut.py") 400] }) ::
  (nat_lit 167, fnX (stB 10 3) (Str.ofString "use") (Str.ofString "Reps.use") (3) ([]) (Value.none) (Value.none) (Value.none) (Value.str (Str.ofString "threepress.lzmastate") 349) (none) (Value.ref 166) (Value.none) (0)) ::
  (nat_lit 168, { cls := Value.type "tuple", data := Data.seq #[] }) ::
  (nat_lit 170, { cls := Value.type "tuple", data := Data.seq #[Value.str (Str.ofString "self") 405, Value.str (Str.ofString "distance") 406] }) ::
  (nat_lit 171, { cls := Value.type "tuple", data := Data.seq #[] }) ::
  (nat_lit 173, { cls := Value.type "code", data := Data.fields #[Value.str (Str.ofString "put") 402, Value.str (Str.ofString "Reps.put") 403, Value.str (Str.ofString "/claim/cut.py") 404, Value.int 81 0, Value.int 2 0, Value.int 0 0, Value.int 0 0, Value.int 3 0, Value.ref 168, Value.bool true, Value.int 181 0, Value.ref 169, Value.none, Value.ref 170, Value.ref 171, Value.ref 172, Value.int 407 0, Value.int 81 0, Value.str (Str.ofString "/claim/cut.py") 408] }) ::
  (nat_lit 174, fnX (stB 10 4) (Str.ofString "put") (Str.ofString "Reps.put") (3) ([]) (Value.none) (Value.none) (Value.none) (Value.str (Str.ofString "threepress.lzmastate") 349) (none) (Value.ref 173) (Value.none) (0)) ::
  (nat_lit 175, { cls := Value.type "tuple", data := Data.seq #[] }) ::
  (nat_lit 177, { cls := Value.type "tuple", data := Data.seq #[Value.str (Str.ofString "self") 413] }) ::
  (nat_lit 178, { cls := Value.type "tuple", data := Data.seq #[] }) ::
  (nat_lit 180, { cls := Value.type "code", data := Data.fields #[Value.str (Str.ofString "copy") 410, Value.str (Str.ofString "Reps.copy") 411, Value.str (Str.ofString "/claim/cut.py") 412, Value.int 84 0, Value.int 1 0, Value.int 0 0, Value.int 0 0, Value.int 3 0, Value.ref 175, Value.bool true, Value.int 181 0, Value.ref 176, Value.none, Value.ref 177, Value.ref 178, Value.ref 179, Value.int 414 0, Value.int 84 0, Value.str (Str.ofString "/claim/cut.py") 415] }) ::
  (nat_lit 181, fnX (stB 10 5) (Str.ofString "copy") (Str.ofString "Reps.copy") (3) ([]) (Value.none) (Value.none) (Value.none) (Value.str (Str.ofString "threepress.lzmastate") 349) (none) (Value.ref 180) (Value.none) (0)) ::
  (nat_lit 182, { cls := Value.type "tuple", data := Data.seq #[Value.str (Str.ofString "row") 417] }) ::
  (nat_lit 183, { cls := Value.type "dict", data := Data.dict #[{ hash := PyData.keyHash P (Str.ofString "__module__"), key := Value.str (Str.ofString "__module__") 362, val := Value.str (Str.ofString "threepress.lzmastate") 349 }, { hash := PyData.keyHash P (Str.ofString "__firstlineno__"), key := Value.str (Str.ofString "__firstlineno__") 366, val := Value.int 65 365 }, { hash := PyData.keyHash P (Str.ofString "__init__"), key := Value.str (Str.ofString "__init__") 378, val := Value.ref 146 }, { hash := PyData.keyHash P (Str.ofString "reset"), key := Value.str (Str.ofString "reset") 385, val := Value.ref 153 }, { hash := PyData.keyHash P (Str.ofString "first"), key := Value.str (Str.ofString "first") 392, val := Value.ref 160 }, { hash := PyData.keyHash P (Str.ofString "use"), key := Value.str (Str.ofString "use") 401, val := Value.ref 167 }, { hash := PyData.keyHash P (Str.ofString "put"), key := Value.str (Str.ofString "put") 409, val := Value.ref 174 }, { hash := PyData.keyHash P (Str.ofString "copy"), key := Value.str (Str.ofString "copy") 416, val := Value.ref 181 }, { hash := PyData.keyHash P (Str.ofString "__static_attributes__"), key := Value.str (Str.ofString "__static_attributes__") 418, val := Value.ref 182 }, { hash := PyData.keyHash P (Str.ofString "__dict__"), key := Value.str (Str.ofString "__dict__") 420, val := Value.ref 185 }, { hash := PyData.keyHash P (Str.ofString "__weakref__"), key := Value.str (Str.ofString "__weakref__") 422, val := Value.ref 186 }, { hash := PyData.keyHash P (Str.ofString "__doc__"), key := Value.str (Str.ofString "__doc__") 423, val := Value.none }] 4 }) ::
  (nat_lit 184, { cls := Value.type "type", data := Data.cls { name := Str.ofString "Reps", bases := [Value.type "object"], mro := [Value.ref 184, Value.type "object"], ns := 183, qualname := Str.ofString "Reps" }, slots := #[none, none, some (Value.str (Str.ofString "Reps") 355), some (Value.str (Str.ofString "Reps") 363), some (Value.builtin "object.__new__"), some (Value.bool true)] }) ::
  (nat_lit 185, { cls := Value.type "getset_descriptor", data := Data.fields #[Value.str (Str.ofString "__dict__") 419, Value.ref 184, Value.builtin "function.__dict__", Value.builtin "function.__dict__#set"] }) ::
  (nat_lit 186, { cls := Value.type "getset_descriptor", data := Data.fields #[Value.str (Str.ofString "__weakref__") 421, Value.ref 184, Value.builtin "ExceptionGroup.__weakref__", Value.none] }) ::
  (nat_lit 189, { cls := Value.type "tuple", data := Data.seq #[Value.str (Str.ofString "lit") 428, Value.str (Str.ofString "match") 429, Value.str (Str.ofString "rep") 430, Value.str (Str.ofString "short") 431] }) ::
  (nat_lit 190, { cls := Value.type "tuple", data := Data.seq #[] }) ::
  (nat_lit 192, { cls := Value.type "tuple", data := Data.seq #[Value.str (Str.ofString "number") 436, Value.str (Str.ofString "word") 437] }) ::
  (nat_lit 193, { cls := Value.type "tuple", data := Data.seq #[] }) ::
  (nat_lit 195, { cls := Value.type "code", data := Data.fields #[Value.str (Str.ofString "need_whole") 433, Value.str (Str.ofString "need_whole") 434, Value.str (Str.ofString "/claim/cut.py") 435, Value.int 88 0, Value.int 2 0, Value.int 0 0, Value.int 0 0, Value.int 3 0, Value.ref 190, Value.bool true, Value.int 181 0, Value.ref 191, Value.none, Value.ref 192, Value.ref 193, Value.ref 194, Value.int 438 0, Value.int 88 0, Value.str (Str.ofString "/claim/cut.py") 439] }) ::
  (nat_lit 196, fnX (stA 13) (Str.ofString "need_whole") (Str.ofString "need_whole") (3) ([]) (Value.none) (Value.none) (Value.none) (Value.str (Str.ofString "threepress.lzmaencode") 426) (none) (Value.ref 195) (Value.none) (0)) ::
  (nat_lit 197, { cls := Value.type "tuple", data := Data.seq #[] }) ::
  (nat_lit 199, { cls := Value.type "tuple", data := Data.seq #[Value.str (Str.ofString "number") 444, Value.str (Str.ofString "least") 445, Value.str (Str.ofString "most") 446, Value.str (Str.ofString "word") 447] }) ::
  (nat_lit 200, { cls := Value.type "tuple", data := Data.seq #[] }) ::
  (nat_lit 202, { cls := Value.type "code", data := Data.fields #[Value.str (Str.ofString "need_number") 441, Value.str (Str.ofString "need_number") 442, Value.str (Str.ofString "/claim/cut.py") 443, Value.int 91 0, Value.int 4 0, Value.int 0 0, Value.int 0 0, Value.int 3 0, Value.ref 197, Value.bool true, Value.int 181 0, Value.ref 198, Value.none, Value.ref 199, Value.ref 200, Value.ref 201, Value.int 448 0, Value.int 91 0, Value.str (Str.ofString "/claim/cut.py") 449] }) ::
  (nat_lit 203, fnX (stA 14) (Str.ofString "need_number") (Str.ofString "need_number") (3) ([]) (Value.none) (Value.none) (Value.none) (Value.str (Str.ofString "threepress.lzmaencode") 426) (none) (Value.ref 202) (Value.none) (0)) ::
  (nat_lit 204, { cls := Value.type "tuple", data := Data.seq #[] }) ::
  (nat_lit 206, { cls := Value.type "tuple", data := Data.seq #[Value.str (Str.ofString "step") 454] }) ::
  (nat_lit 207, { cls := Value.type "tuple", data := Data.seq #[] }) ::
  (nat_lit 209, { cls := Value.type "code", data := Data.fields #[Value.str (Str.ofString "step_length") 451, Value.str (Str.ofString "step_length") 452, Value.str (Str.ofString "/claim/cut.py") 453, Value.int 95 0, Value.int 1 0, Value.int 0 0, Value.int 0 0, Value.int 3 0, Value.ref 204, Value.bool true, Value.int 181 0, Value.ref 205, Value.none, Value.ref 206, Value.ref 207, Value.ref 208, Value.int 455 0, Value.int 95 0, Value.str (Str.ofString "/claim/cut.py") 456] }) ::
  (nat_lit 210, fnX (stA 15) (Str.ofString "step_length") (Str.ofString "step_length") (3) ([]) (Value.none) (Value.none) (Value.none) (Value.str (Str.ofString "threepress.lzmaencode") 426) (none) (Value.ref 209) (Value.none) (0)) ::
  (nat_lit 211, { cls := Value.type "tuple", data := Data.seq #[Value.str (Str.ofString "lit") 460] }) ::
  (nat_lit 212, { cls := Value.type "tuple", data := Data.seq #[] }) ::
  (nat_lit 214, { cls := Value.type "tuple", data := Data.seq #[Value.str (Str.ofString "step") 465, Value.str (Str.ofString "reps") 466] }) ::
  (nat_lit 215, { cls := Value.type "tuple", data := Data.seq #[] }) ::
  (nat_lit 217, { cls := Value.type "code", data := Data.fields #[Value.str (Str.ofString "distance_of") 462, Value.str (Str.ofString "distance_of") 463, Value.str (Str.ofString "/claim/cut.py") 464, Value.int 109 0, Value.int 2 0, Value.int 0 0, Value.int 0 0, Value.int 3 0, Value.ref 212, Value.bool true, Value.int 181 0, Value.ref 213, Value.none, Value.ref 214, Value.ref 215, Value.ref 216, Value.int 467 0, Value.int 109 0, Value.str (Str.ofString "/claim/cut.py") 468] }) ::
  (nat_lit 218, fnX (stA 18) (Str.ofString "distance_of") (Str.ofString "distance_of") (3) ([]) (Value.none) (Value.none) (Value.none) (Value.str (Str.ofString "threepress.lzmaparse") 458) (none) (Value.ref 217) (Value.none) (0)) ::
  (nat_lit 219, { cls := Value.type "tuple", data := Data.seq #[] }) ::
  (nat_lit 221, { cls := Value.type "tuple", data := Data.seq #[Value.str (Str.ofString "length") 473, Value.str (Str.ofString "found") 474, Value.str (Str.ofString "part") 475] }) ::
  (nat_lit 222, { cls := Value.type "tuple", data := Data.seq #[] }) ::
  (nat_lit 224, { cls := Value.type "code", data := Data.fields #[Value.str (Str.ofString "cut_length") 470, Value.str (Str.ofString "cut_length") 471, Value.str (Str.ofString "/claim/cut.py") 472, Value.int 121 0, Value.int 1 0, Value.int 0 0, Value.int 0 0, Value.int 3 0, Value.ref 219, Value.bool true, Value.int 181 0, Value.ref 220, Value.none, Value.ref 221, Value.ref 222, Value.ref 223, Value.int 476 0, Value.int 121 0, Value.str (Str.ofString "/claim/cut.py") 477] }) ::
  (nat_lit 225, fnX (stA 19) (Str.ofString "cut_length") (Str.ofString "cut_length") (3) ([]) (Value.none) (Value.none) (Value.none) (Value.str (Str.ofString "threepress.lzmaparse") 458) (none) (Value.ref 224) (Value.none) (0)) ::
  (nat_lit 226, { cls := Value.type "tuple", data := Data.seq #[Value.none] }) ::
  (nat_lit 227, { cls := Value.type "tuple", data := Data.seq #[] }) ::
  (nat_lit 229, { cls := Value.type "tuple", data := Data.seq #[Value.str (Str.ofString "plain") 482, Value.str (Str.ofString "reps") 483, Value.str (Str.ofString "own") 484, Value.str (Str.ofString "found") 485, Value.str (Str.ofString "pair") 486, Value.str (Str.ofString "length") 487, Value.str (Str.ofString "distance") 488, Value.str (Str.ofString "part") 489, Value.str (Str.ofString "index") 490] }) ::
  (nat_lit 230, { cls := Value.type "tuple", data := Data.seq #[] }) ::
  (nat_lit 232, { cls := Value.type "code", data := Data.fields #[Value.str (Str.ofString "steps_of_plain") 479, Value.str (Str.ofString "steps_of_plain") 480, Value.str (Str.ofString "/claim/cut.py") 481, Value.int 129 0, Value.int 2 0, Value.int 0 0, Value.int 0 0, Value.int 3 0, Value.ref 227, Value.bool true, Value.int 181 0, Value.ref 228, Value.none, Value.ref 229, Value.ref 230, Value.ref 231, Value.int 491 0, Value.int 129 0, Value.str (Str.ofString "/claim/cut.py") 492] }) ::
  (nat_lit 233, fnX (stA 20) (Str.ofString "steps_of_plain") (Str.ofString "steps_of_plain") (3) ([]) (Value.ref 226) (Value.none) (Value.none) (Value.str (Str.ofString "threepress.lzmaparse") 458) (none) (Value.ref 232) (Value.none) (0)) ::
  (nat_lit 234, { cls := Value.type "tuple", data := Data.seq #[] }) ::
  (nat_lit 236, { cls := Value.type "tuple", data := Data.seq #[Value.str (Str.ofString "script") 499, Value.str (Str.ofString "great") 500, Value.str (Str.ofString "mix") 501, Value.str (Str.ofString "cell") 502] }) ::
  (nat_lit 237, { cls := Value.type "tuple", data := Data.seq #[] }) ::
  (nat_lit 239, { cls := Value.type "code", data := Data.fields #[Value.str (Str.ofString "_law_jar") 496, Value.str (Str.ofString "_law_jar") 497, Value.str (Str.ofString "/claim/cut.py") 498, Value.int 152 0, Value.int 1 0, Value.int 0 0, Value.int 0 0, Value.int 3 0, Value.ref 234, Value.bool true, Value.int 181 0, Value.ref 235, Value.none, Value.ref 236, Value.ref 237, Value.ref 238, Value.int 503 0, Value.int 152 0, Value.str (Str.ofString "/claim/cut.py") 504] }) ::
  (nat_lit 240, fnX (stA 22) (Str.ofString "_law_jar") (Str.ofString "_law_jar") (3) ([]) (Value.none) (Value.none) (Value.none) (Value.str (Str.ofString "law_tk0119_01") 494) (none) (Value.ref 239) (Value.none) (0)) ::
  (nat_lit 241, { cls := Value.type "tuple", data := Data.seq #[] }) ::
  (nat_lit 243, { cls := Value.type "tuple", data := Data.seq #[Value.str (Str.ofString "jar") 509, Value.str (Str.ofString "many") 510, Value.str (Str.ofString "digit") 511] }) ::
  (nat_lit 244, { cls := Value.type "tuple", data := Data.seq #[] }) ::
  (nat_lit 246, { cls := Value.type "code", data := Data.fields #[Value.str (Str.ofString "_law_take") 506, Value.str (Str.ofString "_law_take") 507, Value.str (Str.ofString "/claim/cut.py") 508, Value.int 159 0, Value.int 2 0, Value.int 0 0, Value.int 0 0, Value.int 3 0, Value.ref 241, Value.bool true, Value.int 181 0, Value.ref 242, Value.none, Value.ref 243, Value.ref 244, Value.ref 245, Value.int 512 0, Value.int 159 0, Value.str (Str.ofString "/claim/cut.py") 513] }) ::
  (nat_lit 247, fnX (stA 23) (Str.ofString "_law_take") (Str.ofString "_law_take") (3) ([]) (Value.none) (Value.none) (Value.none) (Value.str (Str.ofString "law_tk0119_01") 494) (none) (Value.ref 246) (Value.none) (0)) ::
  (nat_lit 248, { cls := Value.type "tuple", data := Data.seq #[] }) ::
  (nat_lit 251, { cls := Value.type "code", data := Data.fields #[Value.str (Str.ofString "_law_other") 515, Value.str (Str.ofString "_law_other") 516, Value.str (Str.ofString "/claim/cut.py") 517, Value.int 166 0, Value.int 3 0, Value.int 0 0, Value.int 0 0, Value.int 3 0, Value.ref 248, Value.bool true, Value.int 181 0, Value.ref 249, Value.none, Value.none, Value.none, Value.ref 250, Value.int 518 0, Value.int 166 0, Value.str (Str.ofString "/claim/cut.py") 519] }) ::
  (nat_lit 252, fnX (stA 24) (Str.ofString "_law_other") (Str.ofString "_law_other") (3) ([]) (Value.none) (Value.none) (Value.none) (Value.str (Str.ofString "law_tk0119_01") 494) (none) (Value.ref 251) (Value.none) (0)) ::
  (nat_lit 253, { cls := Value.type "tuple", data := Data.seq #[] }) ::
  (nat_lit 256, { cls := Value.type "code", data := Data.fields #[Value.str (Str.ofString "_law_fars") 521, Value.str (Str.ofString "_law_fars") 522, Value.str (Str.ofString "/claim/cut.py") 523, Value.int 173 0, Value.int 3 0, Value.int 0 0, Value.int 0 0, Value.int 3 0, Value.ref 253, Value.bool true, Value.int 181 0, Value.ref 254, Value.none, Value.none, Value.none, Value.ref 255, Value.int 524 0, Value.int 173 0, Value.str (Str.ofString "/claim/cut.py") 525] }) ::
  (nat_lit 257, fnX (stA 25) (Str.ofString "_law_fars") (Str.ofString "_law_fars") (3) ([]) (Value.none) (Value.none) (Value.none) (Value.str (Str.ofString "law_tk0119_01") 494) (none) (Value.ref 256) (Value.none) (0)) ::
  (nat_lit 258, { cls := Value.type "tuple", data := Data.seq #[] }) ::
  (nat_lit 260, { cls := Value.type "tuple", data := Data.seq #[Value.str (Str.ofString "run") 530, Value.str (Str.ofString "late") 531, Value.str (Str.ofString "twins") 532, Value.str (Str.ofString "at") 533, Value.str (Str.ofString "far") 534] }) ::
  (nat_lit 261, { cls := Value.type "tuple", data := Data.seq #[] }) ::
  (nat_lit 263, { cls := Value.type "code", data := Data.fields #[Value.str (Str.ofString "_law_late") 527, Value.str (Str.ofString "_law_late") 528, Value.str (Str.ofString "/claim/cut.py") 529, Value.int 180 0, Value.int 1 0, Value.int 0 0, Value.int 0 0, Value.int 3 0, Value.ref 258, Value.bool true, Value.int 181 0, Value.ref 259, Value.none, Value.ref 260, Value.ref 261, Value.ref 262, Value.int 535 0, Value.int 180 0, Value.str (Str.ofString "/claim/cut.py") 536] }) ::
  (nat_lit 264, fnX (stA 26) (Str.ofString "_law_late") (Str.ofString "_law_late") (3) ([]) (Value.none) (Value.none) (Value.none) (Value.str (Str.ofString "law_tk0119_01") 494) (none) (Value.ref 263) (Value.none) (0)) ::
  (nat_lit 265, { cls := Value.type "tuple", data := Data.seq #[] }) ::
  (nat_lit 267, { cls := Value.type "tuple", data := Data.seq #[Value.str (Str.ofString "begun") 541, Value.str (Str.ofString "late") 542, Value.str (Str.ofString "room") 543, Value.str (Str.ofString "rest") 544, Value.str (Str.ofString "far") 545] }) ::
  (nat_lit 268, { cls := Value.type "tuple", data := Data.seq #[] }) ::
  (nat_lit 270, { cls := Value.type "code", data := Data.fields #[Value.str (Str.ofString "_law_row") 538, Value.str (Str.ofString "_law_row") 539, Value.str (Str.ofString "/claim/cut.py") 540, Value.int 190 0, Value.int 3 0, Value.int 0 0, Value.int 0 0, Value.int 3 0, Value.ref 265, Value.bool true, Value.int 181 0, Value.ref 266, Value.none, Value.ref 267, Value.ref 268, Value.ref 269, Value.int 546 0, Value.int 190 0, Value.str (Str.ofString "/claim/cut.py") 547] }) ::
  (nat_lit 271, fnX (stA 27) (Str.ofString "_law_row") (Str.ofString "_law_row") (3) ([]) (Value.none) (Value.none) (Value.none) (Value.str (Str.ofString "law_tk0119_01") 494) (none) (Value.ref 270) (Value.none) (0)) ::
  (nat_lit 272, { cls := Value.type "tuple", data := Data.seq #[] }) ::
  (nat_lit 274, { cls := Value.type "tuple", data := Data.seq #[Value.str (Str.ofString "begun") 552, Value.str (Str.ofString "other") 553, Value.str (Str.ofString "run") 554, Value.str (Str.ofString "rows") 555, Value.str (Str.ofString "meant") 556, Value.str (Str.ofString "found") 557, Value.str (Str.ofString "row") 558, Value.str (Str.ofString "ahead") 559, Value.str (Str.ofString "far") 560] }) ::
  (nat_lit 275, { cls := Value.type "tuple", data := Data.seq #[] }) ::
  (nat_lit 277, { cls := Value.type "code", data := Data.fields #[Value.str (Str.ofString "_law_heard") 549, Value.str (Str.ofString "_law_heard") 550, Value.str (Str.ofString "/claim/cut.py") 551, Value.int 196 0, Value.int 4 0, Value.int 0 0, Value.int 0 0, Value.int 3 0, Value.ref 272, Value.bool true, Value.int 181 0, Value.ref 273, Value.none, Value.ref 274, Value.ref 275, Value.ref 276, Value.int 561 0, Value.int 196 0, Value.str (Str.ofString "/claim/cut.py") 562] }) ::
  (nat_lit 278, fnX (stA 28) (Str.ofString "_law_heard") (Str.ofString "_law_heard") (3) ([]) (Value.none) (Value.none) (Value.none) (Value.str (Str.ofString "law_tk0119_01") 494) (none) (Value.ref 277) (Value.none) (0)) ::
  (nat_lit 279, { cls := Value.type "tuple", data := Data.seq #[] }) ::
  (nat_lit 282, { cls := Value.type "code", data := Data.fields #[Value.str (Str.ofString "_law_offsets_right") 564, Value.str (Str.ofString "_law_offsets_right") 565, Value.str (Str.ofString "/claim/cut.py") 566, Value.int 205 0, Value.int 4 0, Value.int 0 0, Value.int 0 0, Value.int 3 0, Value.ref 279, Value.bool true, Value.int 181 0, Value.ref 280, Value.none, Value.none, Value.none, Value.ref 281, Value.int 567 0, Value.int 205 0, Value.str (Str.ofString "/claim/cut.py") 568] }) ::
  (nat_lit 283, fnX (stA 29) (Str.ofString "_law_offsets_right") (Str.ofString "_law_offsets_right") (3) ([]) (Value.none) (Value.none) (Value.none) (Value.str (Str.ofString "law_tk0119_01") 494) (none) (Value.ref 282) (Value.none) (0)) ::
  (nat_lit 284, { cls := Value.type "tuple", data := Data.seq #[] }) ::
  (nat_lit 287, { cls := Value.type "code", data := Data.fields #[Value.str (Str.ofString "_law_reps_right") 570, Value.str (Str.ofString "_law_reps_right") 571, Value.str (Str.ofString "/claim/cut.py") 572, Value.int 215 0, Value.int 4 0, Value.int 0 0, Value.int 0 0, Value.int 3 0, Value.ref 284, Value.bool true, Value.int 181 0, Value.ref 285, Value.none, Value.none, Value.none, Value.ref 286, Value.int 573 0, Value.int 215 0, Value.str (Str.ofString "/claim/cut.py") 574] }) ::
  (nat_lit 288, fnX (stA 30) (Str.ofString "_law_reps_right") (Str.ofString "_law_reps_right") (3) ([]) (Value.none) (Value.none) (Value.none) (Value.str (Str.ofString "law_tk0119_01") 494) (none) (Value.ref 287) (Value.none) (0)) ::
  (nat_lit 289, { cls := Value.type "tuple", data := Data.seq #[] }) ::
  (nat_lit 292, { cls := Value.type "code", data := Data.fields #[Value.str (Str.ofString "law") 576, Value.str (Str.ofString "law") 577, Value.str (Str.ofString "/claim/cut.py") 578, Value.int 234 0, Value.int 1 0, Value.int 0 0, Value.int 0 0, Value.int 3 0, Value.ref 289, Value.bool true, Value.int 181 0, Value.ref 290, Value.none, Value.none, Value.none, Value.ref 291, Value.int 579 0, Value.int 234 0, Value.str (Str.ofString "/claim/cut.py") 580] }) ::
  (nat_lit 293, fnX (stA 31) (Str.ofString "law") (Str.ofString "law") (3) ([]) (Value.none) (Value.none) (Value.none) (Value.str (Str.ofString "law_tk0119_01") 494) (none) (Value.ref 292) (Value.none) (0)) ::
  []
noncomputable def hd.view_39 : Program := { PySem.Challenge.pw_tk0119_01 with main := { PySem.Challenge.pw_tk0119_01.main with body := [stA 0, stA 2, stA 3, stA 4, stA 6, stA 8, stA 9, stA 10, stA 12, stA 13, stA 14, stA 15, stA 17, stA 18, stA 19, stA 22, stA 23, stA 24, stA 25, stA 26, stA 27, stA 28, stA 29, stA 30, stA 31] } }
noncomputable abbrev asK : List Addr := 2 :: 3 :: 15 :: 17 :: 18 :: 20 :: 21 :: 22 :: 29 :: 30 :: 32 :: 33 :: 35 :: 36 :: 37 :: 38 :: 39 :: 40 :: 43 :: 50 :: 51 :: 52 :: 55 :: 62 :: 63 :: 64 :: 74 :: 75 :: 77 :: 78 :: 80 :: 81 :: 82 :: 84 :: 85 :: 87 :: 88 :: 89 :: 91 :: 92 :: 94 :: 95 :: 96 :: 98 :: 99 :: 101 :: 102 :: 103 :: 105 :: 106 :: 108 :: 109 :: 110 :: 112 :: 113 :: 115 :: 116 :: 117 :: 119 :: 120 :: 122 :: 123 :: 124 :: 125 :: 126 :: 127 :: 128 :: 138 :: 139 :: 140 :: 142 :: 143 :: 145 :: 146 :: 147 :: 149 :: 150 :: 152 :: 153 :: 154 :: 156 :: 157 :: 159 :: 160 :: 161 :: 163 :: 164 :: 166 :: 167 :: 168 :: 170 :: 171 :: 173 :: 174 :: 175 :: 177 :: 178 :: 180 :: 181 :: 182 :: 183 :: 184 :: 185 :: 186 :: 189 :: 190 :: 192 :: 193 :: 195 :: 196 :: 197 :: 199 :: 200 :: 202 :: 203 :: 204 :: 206 :: 207 :: 209 :: 210 :: 211 :: 212 :: 214 :: 215 :: 217 :: 218 :: 219 :: 221 :: 222 :: 224 :: 225 :: 226 :: 227 :: 229 :: 230 :: 232 :: 233 :: 234 :: 236 :: 237 :: 239 :: 240 :: 241 :: 243 :: 244 :: 246 :: 247 :: 248 :: 251 :: 252 :: 253 :: 256 :: 257 :: 258 :: 260 :: 261 :: 263 :: 264 :: 265 :: 267 :: 268 :: 270 :: 271 :: 272 :: 274 :: 275 :: 277 :: 278 :: 279 :: 282 :: 283 :: 284 :: 287 :: 288 :: 289 :: 292 :: 293 :: []
set_option maxHeartbeats 8000000 in
theorem hookE : ∀ P, asK = (hd.heap_39 P).map (·.1) := fun _ => by kernel_rfl
noncomputable abbrev hookK : Hook := kHook hd.heap_39 asK hookE
set_option maxHeartbeats 8000000 in
theorem topSaid : PySem.Challenge.rw_tk0119_01.wellSaid = true := by
  (try rw [PySem.W.Fast.te9446332074065402090])
  kernel_rfl
theorem topOpen : ∀ w : World, (fencedOpening treeTable PySem.Challenge.rw_tk0119_01.row.prog w 4274).map (fun s => (s.heap, s.gens, s.drawn, s.toks)) = some (boot_heap w.params, (#[] : Array GenState), boot_drawn, boot_toks) :=
  boot_open (by kernel_rfl) (by kernel_rfl) (fun _ => by kernel_rfl)
/-- the opening is the library's; what stands behind it is one run -/
theorem left_of {p : Program} {N : Nat} {β : Type} {F : Shared → β} {G : World → β} {H₀ : Params → Heap} {gs₀ : Array GenState} {d₀ : Drawn} {k₀ : Nat}
    (open_ : ∀ w : World, (fencedOpening treeTable p w N).map (fun s => (s.heap, s.gens, s.drawn, s.toks)) = some (H₀ w.params, gs₀, d₀, k₀))
    (rest : ∀ (w : World) (os : OsState), (topFrom treeTable p w N ⟨H₀ w.params, gs₀, d₀, k₀, os⟩).map F = some (G w)) (w : World) : (openEnds treeTable p w N).map F = some (G w) := by
  obtain ⟨⟨h, gs, d, k, os⟩, e, e'⟩ := Option.map_eq_some_iff.mp (open_ w)
  obtain ⟨rfl, rfl, rfl, rfl⟩ : h = H₀ w.params ∧ gs = gs₀ ∧ d = d₀ ∧ k = k₀ := by simpa using e'
  unfold openEnds
  rw [e]
  exact rest w os
set_option maxHeartbeats 8000000 in
theorem topLeft : LeftO PySem.Challenge.rw_tk0119_01.row.prog hd.view_39 [Str.ofString "PressError", Str.ofString "Reps", Str.ofString "steps_of_plain"] (fun s => xlAt hd.view_39 [] s && recOk PySem.Challenge.rw_tk0119_01.row.records s) hookK.obs hookK.val 4274 := by
  refine left_of topOpen ?_
  intro w os
  unfold topFrom
  (try rw [PySem.W.Fast.te14082659384304107361, PySem.W.Fast.te14364793385576792824, PySem.W.Fast.te4187177175401517315])
  kernel_rfl
set_option maxHeartbeats 8000000 in
theorem topLooks : (chainsOk hd.view_39 && opensWell PySem.Challenge.rw_tk0119_01.row.prog && (frees PySem.Challenge.rw_tk0119_01.row.toRowW && PySem.Challenge.rw_tk0119_01.row.within.isEmpty)) = true := by kernel_rfl
theorem topBare : PySem.Challenge.rw_tk0119_01.row.prog.bare := ⟨rfl, rfl, rfl, rfl, rfl, by decide +kernel⟩
set_option maxHeartbeats 8000000 in
theorem hd {d : DefRec} {kwd : List (Str × PySem.Expr)} (hdef : defOf hd.view_39 PySem.Challenge.rw_tk0119_01.row.name = some (d, kwd)) (hp : PySem.Challenge.rw_tk0119_01.row.prog.theDef PySem.Challenge.rw_tk0119_01.row.name = some (d.params, d.body, d.scope)) (hk : kwWritten? d.params.kwonlyargs d.params.kw_defaults = some kwd)
    (walk : WalkO hd.view_39 [Str.ofString "PressError", Str.ofString "Reps", Str.ofString "steps_of_plain"] (XL hd.view_39 []) hookK.says PySem.Challenge.rw_tk0119_01.row.toRowW d kwd fun f vs => PySem.call f vs) : PySem.Challenge.rw_tk0119_01.Holds := by
  refine holds_law topSaid fun said => ?_
  refine holds_open (q := hd.view_39) (loose := [Str.ofString "PressError", Str.ofString "Reps", Str.ofString "steps_of_plain"]) (Xt := fun s => xlAt hd.view_39 [] s && recOk PySem.Challenge.rw_tk0119_01.row.records s) (XP := XL hd.view_39 []) (Yf := hookK.obs) (Ya := hookK.val) (YP := hookK.says) (N := 4274) topLeft hookK.of hookK.keeps (fun s e => xl_of s (Bool.and_eq_true_iff.mp e).1) XL.keeps hdef hp hk (fun s e => recFacts_of (Bool.and_eq_true_iff.mp e).2) (by rfl) said topLooks topBare ?hw walk
  case hw => w_witness2

theorem dep_lt {d a b a' b' N : Nat} (h : d + a + b < N) (k : a' + b' ≤ a + b) : d + a' + b' < N := Nat.lt_of_le_of_lt (by rw [Nat.add_assoc, Nat.add_assoc]; exact Nat.add_le_add_left k d) h
theorem dep_lt1 {d a b a' N : Nat} (h : d + a + b < N) (k : a' ≤ a + b) : d + a' < N := Nat.lt_of_le_of_lt (by rw [Nat.add_assoc]; exact Nat.add_le_add_left k d) h
theorem cast_lt {i : Nat} (n : Nat) {N : Int} (h : i < n) (k : (n : Int) ≤ N) : (i : Int) < N := by omega
theorem cast_lt1 {i : Nat} (n : Nat) {N : Int} (h : i < n) (k : (n : Int) < N) : (i : Int) + 1 < N := by omega
theorem cast_nn1 (i : Nat) : 0 ≤ (i : Int) + 1 := by omega
theorem lt_le {a b : Nat} (n : Nat) (h : a < n) (k : n ≤ b) : a < b := Nat.lt_of_lt_of_le h k
theorem le_lt {a b : Nat} (n : Nat) (h : a ≤ n) (k : n < b) : a < b := Nat.lt_of_le_of_lt h k
theorem lt_le' {a b : Nat} (n : Nat) (h : a < n) (k : n ≤ b) : a ≤ b := Nat.le_of_lt (Nat.lt_of_lt_of_le h k)
theorem sub_nil {α : Type} {M : List α} : ∀ p ∈ ([] : List α), p ∈ M := fun _ h => nomatch h
theorem sub_cons {α : Type} {a : α} {l M : List α} (h : a ∈ M) (k : ∀ p ∈ l, p ∈ M) : ∀ p ∈ a :: l, p ∈ M := List.forall_mem_cons.mpr ⟨h, k⟩
theorem sub_keep {α : Type} {a : α} {l M : List α} (k : ∀ p ∈ l, p ∈ M) : ∀ p ∈ a :: l, p ∈ a :: M := List.forall_mem_cons.mpr ⟨.head _, fun p hp => .tail _ (k p hp)⟩
theorem sub_drop {α : Type} {a : α} {l M : List α} (k : ∀ p ∈ l, p ∈ M) : ∀ p ∈ l, p ∈ a :: M := fun p hp => .tail _ (k p hp)
theorem sub_app {α : Type} {l l' M : List α} (h : ∀ p ∈ l, p ∈ M) (k : ∀ p ∈ l', p ∈ M) : ∀ p ∈ l ++ l', p ∈ M := fun p hp => (List.mem_append.mp hp).elim (h p) (k p)
theorem sub_left {α : Type} {l M M' : List α} (h : ∀ p ∈ l, p ∈ M) : ∀ p ∈ l, p ∈ M ++ M' := fun p hp => List.mem_append_left _ (h p hp)
theorem sub_right {α : Type} {l M M' : List α} (h : ∀ p ∈ l, p ∈ M') : ∀ p ∈ l, p ∈ M ++ M' := fun p hp => List.mem_append_right _ (h p hp)
theorem sub_all {α : Type} {l : List α} : ∀ p ∈ l, p ∈ l := fun _ h => h
theorem ne_lt {a b : Nat} (h : a < b) : a ≠ b := Nat.ne_of_lt h
theorem ne_gt {a b : Nat} (h : b < a) : a ≠ b := Nat.ne_of_gt h
theorem ne_sy {a b : Nat} (h : b ≠ a) : a ≠ b := h.symm
theorem has_lt {x y c : Nat} {Q : Prop} (h : c < y ∧ Q) (k : c < y ∧ Q → x ≠ y) : x ≠ y := k h
theorem has_gt {x y c : Nat} {Q : Prop} (h : c < x ∧ Q) (k : c < x ∧ Q → x ≠ y) : x ≠ y := k h
theorem has_ne {x y c : Nat} {Q : Prop} (h : c ≠ y ∧ Q) (k : c ≠ y ∧ Q → x ≠ y) : x ≠ y := k h
theorem has_sy {x y c : Nat} {Q : Prop} (h : c ≠ x ∧ Q) (k : c ≠ x ∧ Q → x ≠ y) : x ≠ y := k h
theorem mem_hd {α : Type} {a : α} {l : List α} : a ∈ a :: l := .head _
theorem mem_tl {α : Type} {a b : α} {l : List α} (h : a ∈ l) : a ∈ b :: l := .tail _ h
theorem ex5 {t1 t2 t3 t4 t5 : Type} {P : t1 → t2 → t3 → t4 → t5 → Prop} {G : Prop} (h : ∃ a1 a2 a3 a4 a5, P a1 a2 a3 a4 a5) (k : ∀ a1 a2 a3 a4 a5, P a1 a2 a3 a4 a5 → G) : G := by
  obtain ⟨a1, a2, a3, a4, a5, h⟩ := h
  exact k a1 a2 a3 a4 a5 h
theorem exI5 {t1 t2 t3 t4 t5 : Type} {P : t1 → t2 → t3 → t4 → t5 → Prop} (a1 : t1) (a2 : t2) (a3 : t3) (a4 : t4) (a5 : t5) (h : P a1 a2 a3 a4 a5) : ∃ a1 a2 a3 a4 a5, P a1 a2 a3 a4 a5 := ⟨a1, a2, a3, a4, a5, h⟩
theorem ex6 {t1 t2 t3 t4 t5 t6 : Type} {P : t1 → t2 → t3 → t4 → t5 → t6 → Prop} {G : Prop} (h : ∃ a1 a2 a3 a4 a5 a6, P a1 a2 a3 a4 a5 a6) (k : ∀ a1 a2 a3 a4 a5 a6, P a1 a2 a3 a4 a5 a6 → G) : G := by
  obtain ⟨a1, a2, a3, a4, a5, a6, h⟩ := h
  exact k a1 a2 a3 a4 a5 a6 h
theorem exI6 {t1 t2 t3 t4 t5 t6 : Type} {P : t1 → t2 → t3 → t4 → t5 → t6 → Prop} (a1 : t1) (a2 : t2) (a3 : t3) (a4 : t4) (a5 : t5) (a6 : t6) (h : P a1 a2 a3 a4 a5 a6) : ∃ a1 a2 a3 a4 a5 a6, P a1 a2 a3 a4 a5 a6 := ⟨a1, a2, a3, a4, a5, a6, h⟩
theorem ex7 {t1 t2 t3 t4 t5 t6 t7 : Type} {P : t1 → t2 → t3 → t4 → t5 → t6 → t7 → Prop} {G : Prop} (h : ∃ a1 a2 a3 a4 a5 a6 a7, P a1 a2 a3 a4 a5 a6 a7) (k : ∀ a1 a2 a3 a4 a5 a6 a7, P a1 a2 a3 a4 a5 a6 a7 → G) : G := by
  obtain ⟨a1, a2, a3, a4, a5, a6, a7, h⟩ := h
  exact k a1 a2 a3 a4 a5 a6 a7 h
theorem exI7 {t1 t2 t3 t4 t5 t6 t7 : Type} {P : t1 → t2 → t3 → t4 → t5 → t6 → t7 → Prop} (a1 : t1) (a2 : t2) (a3 : t3) (a4 : t4) (a5 : t5) (a6 : t6) (a7 : t7) (h : P a1 a2 a3 a4 a5 a6 a7) : ∃ a1 a2 a3 a4 a5 a6 a7, P a1 a2 a3 a4 a5 a6 a7 := ⟨a1, a2, a3, a4, a5, a6, a7, h⟩
theorem ex8 {t1 t2 t3 t4 t5 t6 t7 t8 : Type} {P : t1 → t2 → t3 → t4 → t5 → t6 → t7 → t8 → Prop} {G : Prop} (h : ∃ a1 a2 a3 a4 a5 a6 a7 a8, P a1 a2 a3 a4 a5 a6 a7 a8) (k : ∀ a1 a2 a3 a4 a5 a6 a7 a8, P a1 a2 a3 a4 a5 a6 a7 a8 → G) : G := by
  obtain ⟨a1, a2, a3, a4, a5, a6, a7, a8, h⟩ := h
  exact k a1 a2 a3 a4 a5 a6 a7 a8 h
theorem exI8 {t1 t2 t3 t4 t5 t6 t7 t8 : Type} {P : t1 → t2 → t3 → t4 → t5 → t6 → t7 → t8 → Prop} (a1 : t1) (a2 : t2) (a3 : t3) (a4 : t4) (a5 : t5) (a6 : t6) (a7 : t7) (a8 : t8) (h : P a1 a2 a3 a4 a5 a6 a7 a8) : ∃ a1 a2 a3 a4 a5 a6 a7 a8, P a1 a2 a3 a4 a5 a6 a7 a8 := ⟨a1, a2, a3, a4, a5, a6, a7, a8, h⟩
theorem ex9 {t1 t2 t3 t4 t5 t6 t7 t8 t9 : Type} {P : t1 → t2 → t3 → t4 → t5 → t6 → t7 → t8 → t9 → Prop} {G : Prop} (h : ∃ a1 a2 a3 a4 a5 a6 a7 a8 a9, P a1 a2 a3 a4 a5 a6 a7 a8 a9) (k : ∀ a1 a2 a3 a4 a5 a6 a7 a8 a9, P a1 a2 a3 a4 a5 a6 a7 a8 a9 → G) : G := by
  obtain ⟨a1, a2, a3, a4, a5, a6, a7, a8, a9, h⟩ := h
  exact k a1 a2 a3 a4 a5 a6 a7 a8 a9 h
theorem exI9 {t1 t2 t3 t4 t5 t6 t7 t8 t9 : Type} {P : t1 → t2 → t3 → t4 → t5 → t6 → t7 → t8 → t9 → Prop} (a1 : t1) (a2 : t2) (a3 : t3) (a4 : t4) (a5 : t5) (a6 : t6) (a7 : t7) (a8 : t8) (a9 : t9) (h : P a1 a2 a3 a4 a5 a6 a7 a8 a9) : ∃ a1 a2 a3 a4 a5 a6 a7 a8 a9, P a1 a2 a3 a4 a5 a6 a7 a8 a9 := ⟨a1, a2, a3, a4, a5, a6, a7, a8, a9, h⟩
theorem ex10 {t1 t2 t3 t4 t5 t6 t7 t8 t9 t10 : Type} {P : t1 → t2 → t3 → t4 → t5 → t6 → t7 → t8 → t9 → t10 → Prop} {G : Prop} (h : ∃ a1 a2 a3 a4 a5 a6 a7 a8 a9 a10, P a1 a2 a3 a4 a5 a6 a7 a8 a9 a10) (k : ∀ a1 a2 a3 a4 a5 a6 a7 a8 a9 a10, P a1 a2 a3 a4 a5 a6 a7 a8 a9 a10 → G) : G := by
  obtain ⟨a1, a2, a3, a4, a5, a6, a7, a8, a9, a10, h⟩ := h
  exact k a1 a2 a3 a4 a5 a6 a7 a8 a9 a10 h
theorem exI10 {t1 t2 t3 t4 t5 t6 t7 t8 t9 t10 : Type} {P : t1 → t2 → t3 → t4 → t5 → t6 → t7 → t8 → t9 → t10 → Prop} (a1 : t1) (a2 : t2) (a3 : t3) (a4 : t4) (a5 : t5) (a6 : t6) (a7 : t7) (a8 : t8) (a9 : t9) (a10 : t10) (h : P a1 a2 a3 a4 a5 a6 a7 a8 a9 a10) : ∃ a1 a2 a3 a4 a5 a6 a7 a8 a9 a10, P a1 a2 a3 a4 a5 a6 a7 a8 a9 a10 := ⟨a1, a2, a3, a4, a5, a6, a7, a8, a9, a10, h⟩
theorem ex11 {t1 t2 t3 t4 t5 t6 t7 t8 t9 t10 t11 : Type} {P : t1 → t2 → t3 → t4 → t5 → t6 → t7 → t8 → t9 → t10 → t11 → Prop} {G : Prop} (h : ∃ a1 a2 a3 a4 a5 a6 a7 a8 a9 a10 a11, P a1 a2 a3 a4 a5 a6 a7 a8 a9 a10 a11) (k : ∀ a1 a2 a3 a4 a5 a6 a7 a8 a9 a10 a11, P a1 a2 a3 a4 a5 a6 a7 a8 a9 a10 a11 → G) : G := by
  obtain ⟨a1, a2, a3, a4, a5, a6, a7, a8, a9, a10, a11, h⟩ := h
  exact k a1 a2 a3 a4 a5 a6 a7 a8 a9 a10 a11 h
theorem exI11 {t1 t2 t3 t4 t5 t6 t7 t8 t9 t10 t11 : Type} {P : t1 → t2 → t3 → t4 → t5 → t6 → t7 → t8 → t9 → t10 → t11 → Prop} (a1 : t1) (a2 : t2) (a3 : t3) (a4 : t4) (a5 : t5) (a6 : t6) (a7 : t7) (a8 : t8) (a9 : t9) (a10 : t10) (a11 : t11) (h : P a1 a2 a3 a4 a5 a6 a7 a8 a9 a10 a11) : ∃ a1 a2 a3 a4 a5 a6 a7 a8 a9 a10 a11, P a1 a2 a3 a4 a5 a6 a7 a8 a9 a10 a11 := ⟨a1, a2, a3, a4, a5, a6, a7, a8, a9, a10, a11, h⟩
theorem ex12 {t1 t2 t3 t4 t5 t6 t7 t8 t9 t10 t11 t12 : Type} {P : t1 → t2 → t3 → t4 → t5 → t6 → t7 → t8 → t9 → t10 → t11 → t12 → Prop} {G : Prop} (h : ∃ a1 a2 a3 a4 a5 a6 a7 a8 a9 a10 a11 a12, P a1 a2 a3 a4 a5 a6 a7 a8 a9 a10 a11 a12) (k : ∀ a1 a2 a3 a4 a5 a6 a7 a8 a9 a10 a11 a12, P a1 a2 a3 a4 a5 a6 a7 a8 a9 a10 a11 a12 → G) : G := by
  obtain ⟨a1, a2, a3, a4, a5, a6, a7, a8, a9, a10, a11, a12, h⟩ := h
  exact k a1 a2 a3 a4 a5 a6 a7 a8 a9 a10 a11 a12 h
theorem exI12 {t1 t2 t3 t4 t5 t6 t7 t8 t9 t10 t11 t12 : Type} {P : t1 → t2 → t3 → t4 → t5 → t6 → t7 → t8 → t9 → t10 → t11 → t12 → Prop} (a1 : t1) (a2 : t2) (a3 : t3) (a4 : t4) (a5 : t5) (a6 : t6) (a7 : t7) (a8 : t8) (a9 : t9) (a10 : t10) (a11 : t11) (a12 : t12) (h : P a1 a2 a3 a4 a5 a6 a7 a8 a9 a10 a11 a12) : ∃ a1 a2 a3 a4 a5 a6 a7 a8 a9 a10 a11 a12, P a1 a2 a3 a4 a5 a6 a7 a8 a9 a10 a11 a12 := ⟨a1, a2, a3, a4, a5, a6, a7, a8, a9, a10, a11, a12, h⟩
theorem ex13 {t1 t2 t3 t4 t5 t6 t7 t8 t9 t10 t11 t12 t13 : Type} {P : t1 → t2 → t3 → t4 → t5 → t6 → t7 → t8 → t9 → t10 → t11 → t12 → t13 → Prop} {G : Prop} (h : ∃ a1 a2 a3 a4 a5 a6 a7 a8 a9 a10 a11 a12 a13, P a1 a2 a3 a4 a5 a6 a7 a8 a9 a10 a11 a12 a13) (k : ∀ a1 a2 a3 a4 a5 a6 a7 a8 a9 a10 a11 a12 a13, P a1 a2 a3 a4 a5 a6 a7 a8 a9 a10 a11 a12 a13 → G) : G := by
  obtain ⟨a1, a2, a3, a4, a5, a6, a7, a8, a9, a10, a11, a12, a13, h⟩ := h
  exact k a1 a2 a3 a4 a5 a6 a7 a8 a9 a10 a11 a12 a13 h
theorem exI13 {t1 t2 t3 t4 t5 t6 t7 t8 t9 t10 t11 t12 t13 : Type} {P : t1 → t2 → t3 → t4 → t5 → t6 → t7 → t8 → t9 → t10 → t11 → t12 → t13 → Prop} (a1 : t1) (a2 : t2) (a3 : t3) (a4 : t4) (a5 : t5) (a6 : t6) (a7 : t7) (a8 : t8) (a9 : t9) (a10 : t10) (a11 : t11) (a12 : t12) (a13 : t13) (h : P a1 a2 a3 a4 a5 a6 a7 a8 a9 a10 a11 a12 a13) : ∃ a1 a2 a3 a4 a5 a6 a7 a8 a9 a10 a11 a12 a13, P a1 a2 a3 a4 a5 a6 a7 a8 a9 a10 a11 a12 a13 := ⟨a1, a2, a3, a4, a5, a6, a7, a8, a9, a10, a11, a12, a13, h⟩
theorem ex14 {t1 t2 t3 t4 t5 t6 t7 t8 t9 t10 t11 t12 t13 t14 : Type} {P : t1 → t2 → t3 → t4 → t5 → t6 → t7 → t8 → t9 → t10 → t11 → t12 → t13 → t14 → Prop} {G : Prop} (h : ∃ a1 a2 a3 a4 a5 a6 a7 a8 a9 a10 a11 a12 a13 a14, P a1 a2 a3 a4 a5 a6 a7 a8 a9 a10 a11 a12 a13 a14) (k : ∀ a1 a2 a3 a4 a5 a6 a7 a8 a9 a10 a11 a12 a13 a14, P a1 a2 a3 a4 a5 a6 a7 a8 a9 a10 a11 a12 a13 a14 → G) : G := by
  obtain ⟨a1, a2, a3, a4, a5, a6, a7, a8, a9, a10, a11, a12, a13, a14, h⟩ := h
  exact k a1 a2 a3 a4 a5 a6 a7 a8 a9 a10 a11 a12 a13 a14 h
theorem exI14 {t1 t2 t3 t4 t5 t6 t7 t8 t9 t10 t11 t12 t13 t14 : Type} {P : t1 → t2 → t3 → t4 → t5 → t6 → t7 → t8 → t9 → t10 → t11 → t12 → t13 → t14 → Prop} (a1 : t1) (a2 : t2) (a3 : t3) (a4 : t4) (a5 : t5) (a6 : t6) (a7 : t7) (a8 : t8) (a9 : t9) (a10 : t10) (a11 : t11) (a12 : t12) (a13 : t13) (a14 : t14) (h : P a1 a2 a3 a4 a5 a6 a7 a8 a9 a10 a11 a12 a13 a14) : ∃ a1 a2 a3 a4 a5 a6 a7 a8 a9 a10 a11 a12 a13 a14, P a1 a2 a3 a4 a5 a6 a7 a8 a9 a10 a11 a12 a13 a14 := ⟨a1, a2, a3, a4, a5, a6, a7, a8, a9, a10, a11, a12, a13, a14, h⟩
theorem and6 {p1 p2 p3 p4 p5 p6 G : Prop} (h : p1 ∧ p2 ∧ p3 ∧ p4 ∧ p5 ∧ p6) (k : p1 → p2 → p3 → p4 → p5 → p6 → G) : G := by
  obtain ⟨h1, h2, h3, h4, h5, h6⟩ := h
  exact k h1 h2 h3 h4 h5 h6
theorem and7 {p1 p2 p3 p4 p5 p6 p7 G : Prop} (h : p1 ∧ p2 ∧ p3 ∧ p4 ∧ p5 ∧ p6 ∧ p7) (k : p1 → p2 → p3 → p4 → p5 → p6 → p7 → G) : G := by
  obtain ⟨h1, h2, h3, h4, h5, h6, h7⟩ := h
  exact k h1 h2 h3 h4 h5 h6 h7
theorem and8 {p1 p2 p3 p4 p5 p6 p7 p8 G : Prop} (h : p1 ∧ p2 ∧ p3 ∧ p4 ∧ p5 ∧ p6 ∧ p7 ∧ p8) (k : p1 → p2 → p3 → p4 → p5 → p6 → p7 → p8 → G) : G := by
  obtain ⟨h1, h2, h3, h4, h5, h6, h7, h8⟩ := h
  exact k h1 h2 h3 h4 h5 h6 h7 h8
theorem and9 {p1 p2 p3 p4 p5 p6 p7 p8 p9 G : Prop} (h : p1 ∧ p2 ∧ p3 ∧ p4 ∧ p5 ∧ p6 ∧ p7 ∧ p8 ∧ p9) (k : p1 → p2 → p3 → p4 → p5 → p6 → p7 → p8 → p9 → G) : G := by
  obtain ⟨h1, h2, h3, h4, h5, h6, h7, h8, h9⟩ := h
  exact k h1 h2 h3 h4 h5 h6 h7 h8 h9
theorem and10 {p1 p2 p3 p4 p5 p6 p7 p8 p9 p10 G : Prop} (h : p1 ∧ p2 ∧ p3 ∧ p4 ∧ p5 ∧ p6 ∧ p7 ∧ p8 ∧ p9 ∧ p10) (k : p1 → p2 → p3 → p4 → p5 → p6 → p7 → p8 → p9 → p10 → G) : G := by
  obtain ⟨h1, h2, h3, h4, h5, h6, h7, h8, h9, h10⟩ := h
  exact k h1 h2 h3 h4 h5 h6 h7 h8 h9 h10
theorem and11 {p1 p2 p3 p4 p5 p6 p7 p8 p9 p10 p11 G : Prop} (h : p1 ∧ p2 ∧ p3 ∧ p4 ∧ p5 ∧ p6 ∧ p7 ∧ p8 ∧ p9 ∧ p10 ∧ p11) (k : p1 → p2 → p3 → p4 → p5 → p6 → p7 → p8 → p9 → p10 → p11 → G) : G := by
  obtain ⟨h1, h2, h3, h4, h5, h6, h7, h8, h9, h10, h11⟩ := h
  exact k h1 h2 h3 h4 h5 h6 h7 h8 h9 h10 h11
theorem and12 {p1 p2 p3 p4 p5 p6 p7 p8 p9 p10 p11 p12 G : Prop} (h : p1 ∧ p2 ∧ p3 ∧ p4 ∧ p5 ∧ p6 ∧ p7 ∧ p8 ∧ p9 ∧ p10 ∧ p11 ∧ p12) (k : p1 → p2 → p3 → p4 → p5 → p6 → p7 → p8 → p9 → p10 → p11 → p12 → G) : G := by
  obtain ⟨h1, h2, h3, h4, h5, h6, h7, h8, h9, h10, h11, h12⟩ := h
  exact k h1 h2 h3 h4 h5 h6 h7 h8 h9 h10 h11 h12
theorem and13 {p1 p2 p3 p4 p5 p6 p7 p8 p9 p10 p11 p12 p13 G : Prop} (h : p1 ∧ p2 ∧ p3 ∧ p4 ∧ p5 ∧ p6 ∧ p7 ∧ p8 ∧ p9 ∧ p10 ∧ p11 ∧ p12 ∧ p13) (k : p1 → p2 → p3 → p4 → p5 → p6 → p7 → p8 → p9 → p10 → p11 → p12 → p13 → G) : G := by
  obtain ⟨h1, h2, h3, h4, h5, h6, h7, h8, h9, h10, h11, h12, h13⟩ := h
  exact k h1 h2 h3 h4 h5 h6 h7 h8 h9 h10 h11 h12 h13
theorem and14 {p1 p2 p3 p4 p5 p6 p7 p8 p9 p10 p11 p12 p13 p14 G : Prop} (h : p1 ∧ p2 ∧ p3 ∧ p4 ∧ p5 ∧ p6 ∧ p7 ∧ p8 ∧ p9 ∧ p10 ∧ p11 ∧ p12 ∧ p13 ∧ p14) (k : p1 → p2 → p3 → p4 → p5 → p6 → p7 → p8 → p9 → p10 → p11 → p12 → p13 → p14 → G) : G := by
  obtain ⟨h1, h2, h3, h4, h5, h6, h7, h8, h9, h10, h11, h12, h13, h14⟩ := h
  exact k h1 h2 h3 h4 h5 h6 h7 h8 h9 h10 h11 h12 h13 h14
theorem and15 {p1 p2 p3 p4 p5 p6 p7 p8 p9 p10 p11 p12 p13 p14 p15 G : Prop} (h : p1 ∧ p2 ∧ p3 ∧ p4 ∧ p5 ∧ p6 ∧ p7 ∧ p8 ∧ p9 ∧ p10 ∧ p11 ∧ p12 ∧ p13 ∧ p14 ∧ p15) (k : p1 → p2 → p3 → p4 → p5 → p6 → p7 → p8 → p9 → p10 → p11 → p12 → p13 → p14 → p15 → G) : G := by
  obtain ⟨h1, h2, h3, h4, h5, h6, h7, h8, h9, h10, h11, h12, h13, h14, h15⟩ := h
  exact k h1 h2 h3 h4 h5 h6 h7 h8 h9 h10 h11 h12 h13 h14 h15
theorem and16 {p1 p2 p3 p4 p5 p6 p7 p8 p9 p10 p11 p12 p13 p14 p15 p16 G : Prop} (h : p1 ∧ p2 ∧ p3 ∧ p4 ∧ p5 ∧ p6 ∧ p7 ∧ p8 ∧ p9 ∧ p10 ∧ p11 ∧ p12 ∧ p13 ∧ p14 ∧ p15 ∧ p16) (k : p1 → p2 → p3 → p4 → p5 → p6 → p7 → p8 → p9 → p10 → p11 → p12 → p13 → p14 → p15 → p16 → G) : G := by
  obtain ⟨h1, h2, h3, h4, h5, h6, h7, h8, h9, h10, h11, h12, h13, h14, h15, h16⟩ := h
  exact k h1 h2 h3 h4 h5 h6 h7 h8 h9 h10 h11 h12 h13 h14 h15 h16
theorem and17 {p1 p2 p3 p4 p5 p6 p7 p8 p9 p10 p11 p12 p13 p14 p15 p16 p17 G : Prop} (h : p1 ∧ p2 ∧ p3 ∧ p4 ∧ p5 ∧ p6 ∧ p7 ∧ p8 ∧ p9 ∧ p10 ∧ p11 ∧ p12 ∧ p13 ∧ p14 ∧ p15 ∧ p16 ∧ p17) (k : p1 → p2 → p3 → p4 → p5 → p6 → p7 → p8 → p9 → p10 → p11 → p12 → p13 → p14 → p15 → p16 → p17 → G) : G := by
  obtain ⟨h1, h2, h3, h4, h5, h6, h7, h8, h9, h10, h11, h12, h13, h14, h15, h16, h17⟩ := h
  exact k h1 h2 h3 h4 h5 h6 h7 h8 h9 h10 h11 h12 h13 h14 h15 h16 h17

local macro_rules | `(tactic| walk_at $s:str) => do
  let t := Lean.Syntax.mkStrLit ("w:" ++ s.getString)
  `(tactic| k_extra $t)
local macro_rules | `(tactic| row_timed "z" ($t:tacticSeq)) => do
  let r ← t.raw.rewriteBottomUpM fun s => match s with
    | .ident i v n p => do if n.toString.startsWith "z9" then return .ident i v (← Lean.Macro.addMacroScope n) p else return s
    | s => return s
  `(tactic| ($(⟨r⟩):tacticSeq))
local macro_rules | `(tactic| k_lt $h:ident) => `(tactic| (replace $h := allLt_of $h; dsimp only [AllLt] at $h:ident))
local macro_rules | `(tactic| omega) => `(tactic| k_extra "om")
local macro_rules | `(tactic| k_ne) => `(tactic| (refine neN ?_; (try dsimp only); k_extra "ne"))
theorem word1 : True := by
  (k_with "om" => row_timed "z" (first | (k_whole; with_reducible first | exact (by assumption) | decide | exact Int.natCast_nonneg _ | exact cast_nn1 _ | exact Nat.le_refl _ | exact dep_lt (by assumption) (by decide) | exact dep_lt1 (by assumption) (by decide) | exact Nat.le_of_lt (by assumption) | exact lt_le _ (by assumption) (by decide) | exact cast_lt _ (by assumption) (by decide) | exact lt_le 100 (by assumption) (by decide) | exact cast_lt 100 (by assumption) (by decide) | exact lt_le 1000 (by assumption) (by decide) | exact cast_lt 1000 (by assumption) (by decide) | exact lt_le' _ (by assumption) (by decide) | exact cast_lt1 100 (by assumption) (by decide)) | ((repeat (rename (@LT.lt Nat _ _ _ ∧ _) => z9q; clear z9q)); (repeat (rename (@Ne Nat _ _ ∧ _) => z9q; clear z9q)); omega (config := {})) | omega (config := {})))
  trivial
theorem word2 : True := by
  (k_with "ne" => row_timed "z" (first | (k_whole; with_reducible first | exact (by assumption) | exact ne_lt (by assumption) | exact ne_gt (by assumption) | exact ne_sy (by assumption) | (refine has_lt (by assumption) ?_; intro z9h; first | exact ne_lt z9h.1 | exact ne_lt z9h.2 | exact ne_lt z9h.2.1 | exact ne_lt z9h.2.2 | exact ne_lt z9h.2.2.1 | exact ne_lt z9h.2.2.2 | exact ne_lt z9h.2.2.2.1 | exact ne_lt z9h.2.2.2.2 | exact ne_lt z9h.2.2.2.2.1 | exact ne_lt z9h.2.2.2.2.2 | exact ne_lt z9h.2.2.2.2.2.1 | exact ne_lt z9h.2.2.2.2.2.2 | exact ne_lt z9h.2.2.2.2.2.2.1 | exact ne_lt z9h.2.2.2.2.2.2.2 | exact ne_lt z9h.2.2.2.2.2.2.2.1 | exact ne_lt z9h.2.2.2.2.2.2.2.2 | exact ne_lt z9h.2.2.2.2.2.2.2.2.1 | exact ne_lt z9h.2.2.2.2.2.2.2.2.2 | exact ne_lt z9h.2.2.2.2.2.2.2.2.2.1 | exact ne_lt z9h.2.2.2.2.2.2.2.2.2.2 | exact ne_lt z9h.2.2.2.2.2.2.2.2.2.2.1 | exact ne_lt z9h.2.2.2.2.2.2.2.2.2.2.2 | exact ne_lt z9h.2.2.2.2.2.2.2.2.2.2.2.1 | exact ne_lt z9h.2.2.2.2.2.2.2.2.2.2.2.2 | exact ne_lt z9h.2.2.2.2.2.2.2.2.2.2.2.2.1 | exact ne_lt z9h.2.2.2.2.2.2.2.2.2.2.2.2.2 | exact ne_lt z9h.2.2.2.2.2.2.2.2.2.2.2.2.2.1 | exact ne_lt z9h.2.2.2.2.2.2.2.2.2.2.2.2.2.2 | exact ne_lt z9h.2.2.2.2.2.2.2.2.2.2.2.2.2.2.1 | exact ne_lt z9h.2.2.2.2.2.2.2.2.2.2.2.2.2.2.2 | exact ne_lt z9h.2.2.2.2.2.2.2.2.2.2.2.2.2.2.2.1 | exact ne_lt z9h.2.2.2.2.2.2.2.2.2.2.2.2.2.2.2.2) | (refine has_gt (by assumption) ?_; intro z9h; first | exact ne_gt z9h.1 | exact ne_gt z9h.2 | exact ne_gt z9h.2.1 | exact ne_gt z9h.2.2 | exact ne_gt z9h.2.2.1 | exact ne_gt z9h.2.2.2 | exact ne_gt z9h.2.2.2.1 | exact ne_gt z9h.2.2.2.2 | exact ne_gt z9h.2.2.2.2.1 | exact ne_gt z9h.2.2.2.2.2 | exact ne_gt z9h.2.2.2.2.2.1 | exact ne_gt z9h.2.2.2.2.2.2 | exact ne_gt z9h.2.2.2.2.2.2.1 | exact ne_gt z9h.2.2.2.2.2.2.2 | exact ne_gt z9h.2.2.2.2.2.2.2.1 | exact ne_gt z9h.2.2.2.2.2.2.2.2 | exact ne_gt z9h.2.2.2.2.2.2.2.2.1 | exact ne_gt z9h.2.2.2.2.2.2.2.2.2 | exact ne_gt z9h.2.2.2.2.2.2.2.2.2.1 | exact ne_gt z9h.2.2.2.2.2.2.2.2.2.2 | exact ne_gt z9h.2.2.2.2.2.2.2.2.2.2.1 | exact ne_gt z9h.2.2.2.2.2.2.2.2.2.2.2 | exact ne_gt z9h.2.2.2.2.2.2.2.2.2.2.2.1 | exact ne_gt z9h.2.2.2.2.2.2.2.2.2.2.2.2 | exact ne_gt z9h.2.2.2.2.2.2.2.2.2.2.2.2.1 | exact ne_gt z9h.2.2.2.2.2.2.2.2.2.2.2.2.2 | exact ne_gt z9h.2.2.2.2.2.2.2.2.2.2.2.2.2.1 | exact ne_gt z9h.2.2.2.2.2.2.2.2.2.2.2.2.2.2 | exact ne_gt z9h.2.2.2.2.2.2.2.2.2.2.2.2.2.2.1 | exact ne_gt z9h.2.2.2.2.2.2.2.2.2.2.2.2.2.2.2 | exact ne_gt z9h.2.2.2.2.2.2.2.2.2.2.2.2.2.2.2.1 | exact ne_gt z9h.2.2.2.2.2.2.2.2.2.2.2.2.2.2.2.2) | (refine has_ne (by assumption) ?_; intro z9h; first | exact z9h.1 | exact z9h.2 | exact z9h.2.1 | exact z9h.2.2 | exact z9h.2.2.1 | exact z9h.2.2.2 | exact z9h.2.2.2.1 | exact z9h.2.2.2.2 | exact z9h.2.2.2.2.1 | exact z9h.2.2.2.2.2 | exact z9h.2.2.2.2.2.1 | exact z9h.2.2.2.2.2.2 | exact z9h.2.2.2.2.2.2.1 | exact z9h.2.2.2.2.2.2.2 | exact z9h.2.2.2.2.2.2.2.1 | exact z9h.2.2.2.2.2.2.2.2 | exact z9h.2.2.2.2.2.2.2.2.1 | exact z9h.2.2.2.2.2.2.2.2.2 | exact z9h.2.2.2.2.2.2.2.2.2.1 | exact z9h.2.2.2.2.2.2.2.2.2.2 | exact z9h.2.2.2.2.2.2.2.2.2.2.1 | exact z9h.2.2.2.2.2.2.2.2.2.2.2 | exact z9h.2.2.2.2.2.2.2.2.2.2.2.1 | exact z9h.2.2.2.2.2.2.2.2.2.2.2.2 | exact z9h.2.2.2.2.2.2.2.2.2.2.2.2.1 | exact z9h.2.2.2.2.2.2.2.2.2.2.2.2.2 | exact z9h.2.2.2.2.2.2.2.2.2.2.2.2.2.1 | exact z9h.2.2.2.2.2.2.2.2.2.2.2.2.2.2 | exact z9h.2.2.2.2.2.2.2.2.2.2.2.2.2.2.1 | exact z9h.2.2.2.2.2.2.2.2.2.2.2.2.2.2.2 | exact z9h.2.2.2.2.2.2.2.2.2.2.2.2.2.2.2.1 | exact z9h.2.2.2.2.2.2.2.2.2.2.2.2.2.2.2.2) | (refine has_sy (by assumption) ?_; intro z9h; first | exact ne_sy z9h.1 | exact ne_sy z9h.2 | exact ne_sy z9h.2.1 | exact ne_sy z9h.2.2 | exact ne_sy z9h.2.2.1 | exact ne_sy z9h.2.2.2 | exact ne_sy z9h.2.2.2.1 | exact ne_sy z9h.2.2.2.2 | exact ne_sy z9h.2.2.2.2.1 | exact ne_sy z9h.2.2.2.2.2 | exact ne_sy z9h.2.2.2.2.2.1 | exact ne_sy z9h.2.2.2.2.2.2 | exact ne_sy z9h.2.2.2.2.2.2.1 | exact ne_sy z9h.2.2.2.2.2.2.2 | exact ne_sy z9h.2.2.2.2.2.2.2.1 | exact ne_sy z9h.2.2.2.2.2.2.2.2 | exact ne_sy z9h.2.2.2.2.2.2.2.2.1 | exact ne_sy z9h.2.2.2.2.2.2.2.2.2 | exact ne_sy z9h.2.2.2.2.2.2.2.2.2.1 | exact ne_sy z9h.2.2.2.2.2.2.2.2.2.2 | exact ne_sy z9h.2.2.2.2.2.2.2.2.2.2.1 | exact ne_sy z9h.2.2.2.2.2.2.2.2.2.2.2 | exact ne_sy z9h.2.2.2.2.2.2.2.2.2.2.2.1 | exact ne_sy z9h.2.2.2.2.2.2.2.2.2.2.2.2 | exact ne_sy z9h.2.2.2.2.2.2.2.2.2.2.2.2.1 | exact ne_sy z9h.2.2.2.2.2.2.2.2.2.2.2.2.2 | exact ne_sy z9h.2.2.2.2.2.2.2.2.2.2.2.2.2.1 | exact ne_sy z9h.2.2.2.2.2.2.2.2.2.2.2.2.2.2 | exact ne_sy z9h.2.2.2.2.2.2.2.2.2.2.2.2.2.2.1 | exact ne_sy z9h.2.2.2.2.2.2.2.2.2.2.2.2.2.2.2 | exact ne_sy z9h.2.2.2.2.2.2.2.2.2.2.2.2.2.2.2.1 | exact ne_sy z9h.2.2.2.2.2.2.2.2.2.2.2.2.2.2.2.2)) | omega (config := {})))
  trivial
theorem word3 : True := by
  (k_with "mem" => (with_reducible first | exact mem_hd | (refine mem_tl ?_; k_extra "mem") | (refine List.mem_append_left _ ?_; k_extra "mem") | (refine List.mem_append_right _ ?_; k_extra "mem") | assumption))
  trivial
theorem word4 : True := by
  (k_with "subv" => (with_reducible first | exact sub_all | assumption | (refine sub_drop ?_; k_extra "subv") | (refine sub_left ?_; k_extra "subv") | (refine sub_right ?_; k_extra "subv")))
  trivial
theorem word5 : True := by
  (k_with "sub" => ((try dsimp only [List.cons_append, List.nil_append]); repeat' (with_reducible first | exact sub_nil | exact sub_all | assumption | (refine sub_keep ?_) | (refine sub_cons ?_ ?_; focus (k_extra "mem")) | (refine sub_app ?_ ?_) | k_extra "subv")))
  trivial

noncomputable abbrev PR : Program := PySem.Challenge.rw_tk0119_01.row.prog

noncomputable abbrev top (dp un : Nat) (gd : Option (List Code)) (env : Env) (outer : List Env) : Around := { handled := none, depth := dp, frames := some (env :: outer), guards := gd, units := un }

/-- a call's way out: the frame's own ground is kept, the ledger is told -/
noncomputable def Leaf (g : Heap) (s : Shared) (post : Value → List (Addr × Obj) → Heap → Prop) (fl : Flow) (s' : Shared) : Prop :=
  ∃ h' tk' L' m' news', s' = { s with heap := h', toks := tk' } ∧ Fr g L' h' m' ∧ News g L' h' news' ∧ post (match fl with | .ret v => v | _ => .none) news' h'

theorem leaf_ret {g : Heap} {s : Shared} {post : Value → List (Addr × Obj) → Heap → Prop} {v : Value} {h' : Heap} {tk' : Nat} {L' : Addr} {m' : Str → Option Value} {news' : List (Addr × Obj)}
    (F : Fr g L' h' m') (N : News g L' h' news') (p : post v news' h') : Leaf g s post (.ret v) { s with heap := h', toks := tk' } := ⟨h', tk', L', m', news', rfl, F, N, p⟩
theorem leaf_next {g : Heap} {s : Shared} {post : Value → List (Addr × Obj) → Heap → Prop} {h' : Heap} {tk' : Nat} {L' : Addr} {m' : Str → Option Value} {news' : List (Addr × Obj)}
    (F : Fr g L' h' m') (N : News g L' h' news') (p : post .none news' h') : Leaf g s post .next { s with heap := h', toks := tk' } := ⟨h', tk', L', m', news', rfl, F, N, p⟩

/-- the ground that a call stands on -/
structure Cx (w : World) (mg mb : Str → Option Value) (p : Program) (loose : List Str) (mean : ExcName → Option Value) (A₀ : Around) (base h₀ : Heap) (env : Env) (outer : List Env) (L : Addr) : Prop where
  B : Below A₀ base outer h₀
  X : (hd.heap_39 w.params).In h₀
  T : Top p loose mean mg mb h₀
  hf : env.frame = some L
  hke : env.scope.kind = .function

/-- what a def of the text's does, said of the heap alone -/
structure Does (w : World) (f : Addr) (args : List Value) (room : Nat) (touched : List (Addr × Obj)) (P : Heap → Prop) (post : Value → List (Addr × Obj) → Heap → Prop) : Prop where
  go : ∀ {mg mb : Str → Option Value} {p : Program} {loose : List Str} {mean : ExcName → Option Value} {A₀ : Around} {base h₀ : Heap} {env : Env} {outer : List Env} {L : Addr} {dp un : Nat} {gd : Option (List Code)}
    {m : Str → Option Value} {s : Shared} {Q E : Value → Shared → Prop},
    Cx w mg mb p loose mean A₀ base h₀ env outer L → Fr h₀ L s.heap m → News h₀ L s.heap touched → P s.heap → dp + room < recursionLimit → un + 8 * room < cLine →
    (∀ v new h' tk', GSub s.heap h' (touched.map (·.1)) → (∀ q ∈ new, h'.get? q.1 = some q.2 ∧ (q.1 ∈ touched.map (·.1) ∨ s.heap.get? q.1 = none)) → post v new h' → Q v { s with heap := h', toks := tk' }) →
    wpAny (model PR w) (top dp un gd env outer) (call (.ref f) args) Q E s

theorem does_of {w : World} {name qual : Str} {params : Arguments} {body : List Stmt} {scope : Scope} {dV kV doc pm cdv ct oc : Value} {an od : Option Addr} {osl : Array (Option Value)} {f : Addr} {args : List Value} {room : Nat}
    {touched : List (Addr × Obj)} {P : Heap → Prop} {post : Value → List (Addr × Obj) → Heap → Prop} (binds : List (Str × Value))
    (ho : (hd.heap_39 w.params).lookup f = some ⟨oc, od, .func (fnOf name qual params body scope dV kV doc pm an cdv ct), osl⟩) (hcd : codeIn (hd.heap_39 w.params) cdv qual = true)
    (hbind : ∀ s, (hd.heap_39 w.params).In s.heap → BindsTo s (fnOf name qual params body scope dV kV doc pm an cdv ct) ⟨args, []⟩ binds) (hloc : ∀ y ∈ binds, scope.names.lookup y.1 = some .local)
    (hco : scope.isCoroutine = false) (hgen : scope.isGenerator = false) (hk : scope.kind = .function) (hcell : ∀ x ∈ scope.names, x.2 ≠ .cell)
    (hP : ∀ h h', GSub h h' (touched.map (·.1)) → P h → P h')
    (bodyH : ∀ {mg mb : Str → Option Value} {p : Program} {loose : List Str} {mean : ExcName → Option Value} {base : Heap} {env : Env} {outer : List Env} {dp un : Nat} {gd : Option (List Code)} {s : Shared} g L' h₁ tk,
      Cx w mg mb p loose mean (top dp un gd env outer) base g (envOf qual scope L' f cdv) (env :: outer) L' → dp + room + 1 < recursionLimit → un + 8 * room + 8 < cLine → P g →
      Below (top dp un gd env outer) base (env :: outer) g → (hd.heap_39 w.params).In g → Top p loose mean mg mb g → GSub s.heap g (touched.map (·.1)) → Fr g L' h₁ (fun y => binds.reverse.lookup y) → News g L' h₁ touched →
      wpAny (model PR w) ((top dp un gd env outer).deeper (envOf qual scope L' f cdv)) (execs body (envOf qual scope L' f cdv)) (Leaf g s post) (fun _ _ => False) { s with heap := h₁, toks := tk }) :
    Does w f args (room + 1) touched P post := by
  refine ⟨?_⟩
  intro mg mb p loose mean A₀ base h₀ env outer L dp un gd m s Q E cx F N hp hdp hun ret
  have KX := cx.X.keeps F.keep
  refine wpAny_call (code_defG cx.B F cx.X N cx.T rfl cx.hf cx.hke ho hcd (by show dp < recursionLimit; omega) (hbind s KX) hloc (fun g L' h₁ FG F' N' B' X' T' G' => ?_) hco hgen hk hcell)
  refine wpAny_mono (bodyH g L' h₁ (s.toks + binds.length) ⟨B', X', T', rfl, hk⟩ (by omega) (by omega) (hP _ _ G' hp) B' X' T' G' F' N') (fun fl s' hl => ?_) fun _ _ x => x.elim
  obtain ⟨h', tk', L'', m'', news', rfl, F'', N'', hp⟩ := hl
  refine ⟨L'', m'', news', F'', N'', fun _ _ => ret _ news' h' tk' (fun b o e hb => F''.keep b o (G' b o e hb)) (fun q hq => ⟨(N'' q hq).1, ?_⟩) hp⟩
  by_cases hb : q.1 ∈ touched.map (·.1)
  · exact .inl hb
  · refine .inr ?_
    cases e : s.heap.get? q.1 with
    | none => rfl
    | some o => exact absurd (G' _ _ e hb) (by rw [(N'' q hq).2.2]; intro x; cases x)

section
variable {h₀ h h' : Heap} {L : Addr} {m : Str → Option Value}
theorem fr_back {adr : List Addr} (F : Fr h₀ L h m) (st : GSub h h' adr) (ha : ∀ a ∈ adr, a ≠ L ∧ h₀.get? a = none) : Fr h₀ L h' m := by
  obtain ⟨oL, es, ep, hL, r⟩ := F.ns
  refine ⟨⟨oL, es, ep, st L oL hL (fun q => (ha L q).1 rfl), r⟩, fun b o e => st b o (F.keep b o e) (fun q => ?_), F.above⟩
  have := (ha b q).2
  rw [e] at this; cases this

theorem news_adr {touched : List (Addr × Obj)} (N : News h₀ L h touched) : ∀ a ∈ touched.map (·.1), a ≠ L ∧ h₀.get? a = none := by
  intro a ha
  obtain ⟨q, hq, rfl⟩ := List.mem_map.mp ha
  exact (N q hq).2

theorem news_back {adr : List Addr} {new rest : List (Addr × Obj)} (F : Fr h₀ L h m) (st : GSub h h' adr) (ha : ∀ a ∈ adr, a ≠ L ∧ h₀.get? a = none)
    (hn : ∀ q ∈ new, h'.get? q.1 = some q.2 ∧ (q.1 ∈ adr ∨ h.get? q.1 = none)) (N : News h₀ L h rest) (hr : ∀ q ∈ rest, q.1 ∉ adr) : News h₀ L h' (new ++ rest) := by
  intro q hq
  rcases List.mem_append.mp hq with hq | hq
  · refine ⟨(hn q hq).1, ?_⟩
    rcases (hn q hq).2 with e | e
    · exact ha _ e
    · refine ⟨fun z => ?_, ?_⟩
      · obtain ⟨oL, es, ep, hL, r⟩ := F.ns
        rw [z, hL] at e; cases e
      · cases e' : h₀.get? q.1 with
        | none => rfl
        | some o => rw [F.keep _ _ e'] at e; cases e
  · exact ⟨st _ _ (N q hq).1 (hr q hq), (N q hq).2⟩
end

/-- a call's use: the ledger is what is touched and the rest -/
theorem does_use {w : World} {f : Addr} {args : List Value} {room : Nat} {touched : List (Addr × Obj)} {P : Heap → Prop} {post : Value → List (Addr × Obj) → Heap → Prop} (D : Does w f args room touched P post)
    {mg mb : Str → Option Value} {p : Program} {loose : List Str} {mean : ExcName → Option Value} {A₀ : Around} {base h₀ : Heap} {env : Env} {outer : List Env} {L : Addr} {dp un : Nat} {gd : Option (List Code)}
    {m : Str → Option Value} {s : Shared} {Q E : Value → Shared → Prop} {led : List (Addr × Obj)} (rest : List (Addr × Obj))
    (cx : Cx w mg mb p loose mean A₀ base h₀ env outer L) (F : Fr h₀ L s.heap m) (N : News h₀ L s.heap led) (ht : ∀ q ∈ touched, q ∈ led) (hr : ∀ q ∈ rest, q ∈ led) (hd : ∀ q ∈ rest, ∀ t ∈ touched, q.1 ≠ t.1)
    (hp : P s.heap) (hdp : dp + room < recursionLimit) (hun : un + 8 * room < cLine)
    (ret : ∀ v new h' tk', Fr h₀ L h' m → News h₀ L h' (new ++ rest) → (∀ q ∈ new, ∀ t ∈ rest, q.1 ≠ t.1) → (∀ q ∈ new, q.1 ∈ touched.map (·.1) ∨ s.heap.get? q.1 = none) → GSub s.heap h' (touched.map (·.1)) → post v new h' → Q v { s with heap := h', toks := tk' }) :
    wpAny (model PR w) (top dp un gd env outer) (call (.ref f) args) Q E s := by
  have NT : News h₀ L s.heap touched := fun q hq => N q (ht q hq)
  have NR : News h₀ L s.heap rest := fun q hq => N q (hr q hq)
  have hrest : ∀ q ∈ rest, q.1 ∉ touched.map (·.1) := fun q hq hm => by
    obtain ⟨t, ht', e⟩ := List.mem_map.mp hm
    exact hd q hq t ht' e.symm
  refine D.go cx F NT hp hdp hun (fun v new h' tk' st hn po => ret v new h' tk' (fr_back F st (news_adr NT)) (news_back F st (news_adr NT) hn NR hrest) (fun q hq t ht' e => ?_) (fun q hq => (hn q hq).2) st po)
  rcases (hn q hq).2 with h1 | h1
  · exact hrest t ht' (e ▸ h1)
  · rw [e, (NR t ht').1] at h1; cases h1

/-- what is new of a call -/
structure NewAt (h₀ : Heap) (L : Addr) (h' : Heap) (led : List (Addr × Obj)) (q : Addr × Obj) : Prop where
  at_ : h'.get? q.1 = some q.2 ∧ q.1 ≠ L ∧ h₀.get? q.1 = none
  off : ∀ p ∈ led, p.1 ≠ q.1
theorem NewAt.news {h₀ h' : Heap} {L : Addr} {led rest : List (Addr × Obj)} {q : Addr × Obj} (A : NewAt h₀ L h' led q) (N : News h₀ L h' rest) : News h₀ L h' (q :: rest) := by
  intro p hp
  rcases List.mem_cons.mp hp with rfl | hp
  · exact A.at_
  · exact N p hp
noncomputable def AllNe (d : Addr) : List (Addr × Obj) → Prop
  | [] => True
  | p :: r => @Ne Nat p.1 d ∧ AllNe d r
theorem allNe_of {d : Addr} : ∀ {l : List (Addr × Obj)}, (∀ p ∈ l, p.1 ≠ d) → AllNe d l
  | [], _ => trivial
  | p :: _, h => ⟨h p (.head _), allNe_of fun q hq => h q (.tail _ hq)⟩
theorem NewAt.ne {h₀ h' : Heap} {L : Addr} {led : List (Addr × Obj)} {q : Addr × Obj} (A : NewAt h₀ L h' led q) : AllNe q.1 led := allNe_of A.off

section
variable {w : World} {f : Addr} {args : List Value} {room : Nat} {P : Heap → Prop} {post : Value → List (Addr × Obj) → Heap → Prop}
    {mg mb : Str → Option Value} {p : Program} {loose : List Str} {mean : ExcName → Option Value} {A₀ : Around} {base h₀ : Heap} {env : Env} {outer : List Env} {L : Addr} {dp un : Nat} {gd : Option (List Code)}
    {m : Str → Option Value} {s : Shared} {Q E : Value → Shared → Prop} {led : List (Addr × Obj)}
theorem does_use0 (D : Does w f args room [] P post) (cx : Cx w mg mb p loose mean A₀ base h₀ env outer L) (F : Fr h₀ L s.heap m) (N : News h₀ L s.heap led)
    (hp : P s.heap) (hdp : dp + room < recursionLimit) (hun : un + 8 * room < cLine)
    (ret : ∀ v new h' tk', Fr h₀ L h' m → News h₀ L h' led → (∀ q ∈ new, NewAt h₀ L h' led q) → s.heap.StaysIn h' → post v new h' → Q v { s with heap := h', toks := tk' }) :
    wpAny (model PR w) (top dp un gd env outer) (call (.ref f) args) Q E s := by
  refine does_use D led cx F N (fun _ h => nomatch h) (fun _ h => h) (fun _ _ _ h => nomatch h) hp hdp hun (fun v new h' tk' F' N' ho hn st po => ret v new h' tk' F' (fun q hq => N' q (List.mem_append_right _ hq)) (fun q hq => ⟨N' q (List.mem_append_left _ hq), fun t ht e => ho q hq t ht e.symm⟩) (fun b o e => st b o e (fun h => nomatch h)) po)

theorem does_use1 {d : Addr} {o : Obj} {u : Obj → List (Addr × Obj)} (D : Does w f args room [(d, o)] P post) (cx : Cx w mg mb p loose mean A₀ base h₀ env outer L) (F : Fr h₀ L s.heap m) (N : News h₀ L s.heap led) (U : UpdF d o led u)
    (hp : P s.heap) (hdp : dp + room < recursionLimit) (hun : un + 8 * room < cLine)
    (ret : ∀ v new h' tk', Fr h₀ L h' m → (∀ o', (d, o') ∈ new → News h₀ L h' (u o')) → (∀ q ∈ new, q.1 ≠ d → NewAt h₀ L h' led q) → GSub s.heap h' [d] → post v new h' → Q v { s with heap := h', toks := tk' }) :
    wpAny (model PR w) (top dp un gd env outer) (call (.ref f) args) Q E s := by
  obtain ⟨pre, post', rfl, hu, h1, h2⟩ := U.split
  have hd : (d, o) ∈ pre ++ (d, o) :: post' := List.mem_append_right _ (.head _)
  refine does_use D (pre ++ post') cx F N (fun q hq => by rw [List.mem_singleton.mp hq]; exact hd) (fun q hq => (List.mem_append.mp hq).elim (fun h => List.mem_append_left _ h) fun h => List.mem_append_right _ (.tail _ h))
    (fun q hq t ht => by rw [List.mem_singleton.mp ht]; exact (List.mem_append.mp hq).elim (h1 q) (h2 q)) hp hdp hun (fun v new h' tk' F' N' ho hn st po => ret v new h' tk' F' (fun o' ho' => ?_) (fun q hq hqd => ⟨N' q (List.mem_append_left _ hq), fun t ht e => ?_⟩) st po)
  · rw [hu o']
    intro q hq
    rcases List.mem_append.mp hq with hq | hq
    · exact N' q (List.mem_append_right _ (List.mem_append_left _ hq))
    · rcases List.mem_cons.mp hq with rfl | hq
      · exact N' _ (List.mem_append_left _ ho')
      · exact N' q (List.mem_append_right _ (List.mem_append_right _ hq))
  · rcases List.mem_append.mp ht with ht | ht
    · exact ho q hq t (List.mem_append_left _ ht) e.symm
    · rcases List.mem_cons.mp ht with rfl | ht
      · exact hqd e.symm
      · exact ho q hq t (List.mem_append_right _ ht) e.symm
end

section
variable {h₀ h : Heap} {L x dx C : Addr} {m : Str → Option Value} {news : List (Addr × Obj)} {od : Obj}
theorem inst_base1 (F : Fr h₀ L h m) (hx : h₀.get? x = some (instObj C dx)) (N : News h₀ L h news) (hd : (dx, od) ∈ news) : PySem.W.InstAt h x (instObj C dx) C (some od) := ⟨F.keep _ _ hx, rfl, rfl, (N _ hd).1⟩
theorem inst_base2 (F : Fr h₀ L h m) (hx : h₀.get? x = some (instObj C dx)) (hd : h₀.get? dx = some od) : PySem.W.InstAt h x (instObj C dx) C (some od) := ⟨F.keep _ _ hx, rfl, rfl, F.keep _ _ hd⟩
end

theorem got_base {h₀ h : Heap} {L a : Addr} {m : Str → Option Value} {o : Obj} (F : Fr h₀ L h m) (e : h₀.get? a = some o) : h.get? a = some o := F.keep _ _ e
theorem got_news {h₀ h : Heap} {L a : Addr} {news : List (Addr × Obj)} {o : Obj} (N : News h₀ L h news) (e : (a, o) ∈ news) : h.get? a = some o := (N _ e).1

theorem gen_toks {α : Type} {M : Model} {A : Around} {t : Sem α} {Q : α → Shared → Prop} {E : Value → Shared → Prop} {h : Heap} {g d o} {X : Nat} (k : ∀ tk, wpAny M A t Q E (Shared.mk h g d tk o)) : wpAny M A t Q E (Shared.mk h g d X o) := k X

noncomputable def Stop (P : Prop) : Prop := P
theorem stop_ {P : Prop} (h : Stop P) : P := h
theorem stop_on {P : Prop} (h : P) : Stop P := h
theorem fr_lit {h₀ h : Heap} {L : Addr} {m : Str → Option Value} (ps : List (Str × Value)) (hp : ∀ p ∈ ps, m p.1 = some p.2) (F : Fr h₀ L h m) : Fr h₀ L h (kstB m ps) := by
  have e : kstB m ps = m := funext fun z => kstB_eq hp fun _ => rfl
  rw [e]; exact F
theorem news_sub {h₀ h : Heap} {L : Addr} {l l' : List (Addr × Obj)} (N : News h₀ L h l) (hs : ∀ p ∈ l', p ∈ l) : News h₀ L h l' := fun p hp => N p (hs p hp)
theorem cut_at {prog : Program} {w : World} {A : Around} {t : Sem Flow} {Q : Flow → Shared → Prop} {E : Value → Shared → Prop} {s : Shared} (P : Shared → Flow → Shared → Prop) (h1 : wpAny (model prog w) A t (P s) (fun _ _ => False) s) (h2 : ∀ fl s', P s fl s' → Q fl s') : wpAny (model prog w) A t Q E s :=
  wpAny_mono h1 h2 fun _ _ x => x.elim

noncomputable def LPost (g : Heap) (L : Addr) (R : (Str → Option Value) → List (Addr × Obj) → Prop) (s : Shared) (fl : Flow) (s' : Shared) : Prop :=
  fl = .next ∧ ∃ h' tk m' led, s' = { s with heap := h', toks := tk } ∧ Fr g L h' m' ∧ News g L h' led ∧ R m' led
theorem lpost {g h' : Heap} {L : Addr} {R : (Str → Option Value) → List (Addr × Obj) → Prop} {s : Shared} {m' : Str → Option Value} {news : List (Addr × Obj)} {tk : Nat} (led : List (Addr × Obj)) (F : Fr g L h' m') (N : News g L h' news) (hs : ∀ p ∈ led, p ∈ news) (r : R m' led) : LPost g L R s .next { s with heap := h', toks := tk } :=
  ⟨rfl, h', tk, m', led, rfl, F, news_sub N hs, r⟩
noncomputable def IfMark : Prop := True
theorem cut_L {prog : Program} {w : World} {A : Around} {t : Sem Flow} {Q : Flow → Shared → Prop} {E : Value → Shared → Prop} {s : Shared} {g : Heap} {L : Addr} (R : (Str → Option Value) → List (Addr × Obj) → Prop)
    (h1 : wpAny (model prog w) A t (LPost g L R s) (fun _ _ => False) s) (h2 : ∀ h' tk m' led, Fr g L h' m' → News g L h' led → R m' led → Q .next { s with heap := h', toks := tk }) : wpAny (model prog w) A t Q E s := by
  refine cut_at _ h1 ?_
  rintro fl s' ⟨rfl, h', tk, m', l, rfl, F, N, r⟩
  exact h2 h' tk m' l F N r
/-- a statement is cut off: the ledger stands as it stood, of the frame R is kept -/
theorem cut_led {prog : Program} {w : World} {A : Around} {t : Sem Flow} {Q : Flow → Shared → Prop} {E : Value → Shared → Prop} {s : Shared} {g : Heap} {L : Addr} {led : List (Addr × Obj)} (_ : News g L s.heap led) (R : (Str → Option Value) → Prop)
    (h1 : wpAny (model prog w) A t (LPost g L (fun m l => l = led ∧ R m) s) (fun _ _ => False) s) (h2 : ∀ h' tk m', Fr g L h' m' → News g L h' led → R m' → Q .next { s with heap := h', toks := tk }) : wpAny (model prog w) A t Q E s := by
  refine cut_at _ h1 ?_
  rintro fl s' ⟨rfl, h', tk, m', l, rfl, F, N, rfl, r⟩
  exact h2 h' tk m' F N r
theorem lpost_led {g h' : Heap} {L : Addr} {R : (Str → Option Value) → Prop} {s : Shared} {m' : Str → Option Value} {led all : List (Addr × Obj)} {tk : Nat} (F : Fr g L h' m') (N : News g L h' all) (hs : ∀ p ∈ led, p ∈ all) (r : R m') : LPost g L (fun m l => l = led ∧ R m) s .next { s with heap := h', toks := tk } :=
  ⟨rfl, h', tk, m', led, rfl, F, news_sub N hs, rfl, r⟩

/-- a statement is cut off: the ledger grows by nw, of the frame and of nw R is kept -/
theorem cut_new {prog : Program} {w : World} {A : Around} {t : Sem Flow} {Q : Flow → Shared → Prop} {E : Value → Shared → Prop} {s : Shared} {g : Heap} {L : Addr} {led : List (Addr × Obj)} (_ : News g L s.heap led) (R : (Str → Option Value) → List (Addr × Obj) → Prop)
    (h1 : wpAny (model prog w) A t (LPost g L (fun m l => ∃ nw, l = nw ++ led ∧ R m nw) s) (fun _ _ => False) s) (h2 : ∀ h' tk m' nw, Fr g L h' m' → News g L h' (nw ++ led) → R m' nw → Q .next { s with heap := h', toks := tk }) : wpAny (model prog w) A t Q E s := by
  refine cut_at _ h1 ?_
  rintro fl s' ⟨rfl, h', tk, m', l, rfl, F, N, nw, rfl, r⟩
  exact h2 h' tk m' nw F N r
theorem lpost_new {g h' : Heap} {L : Addr} {R : (Str → Option Value) → List (Addr × Obj) → Prop} {s : Shared} {m' : Str → Option Value} {led all : List (Addr × Obj)} {tk : Nat} (nw : List (Addr × Obj)) (F : Fr g L h' m') (N : News g L h' all) (hn : ∀ p ∈ nw, p ∈ all) (hs : ∀ p ∈ led, p ∈ all) (r : R m' nw) : LPost g L (fun m l => ∃ nw, l = nw ++ led ∧ R m nw) s .next { s with heap := h', toks := tk } :=
  ⟨rfl, h', tk, m', nw ++ led, rfl, F, fun p hp => (List.mem_append.mp hp).elim (fun h => N p (hn p h)) fun h => N p (hs p h), nw, rfl, r⟩
noncomputable def NamedMark : Prop := True

section
variable {own own2 : List (Addr × Obj)} {A B : List Addr} {a b : Addr}
theorem own_pre (h : OwnOff own (A ++ B)) : OwnOff own A := fun p hp b hb => h p hp b (List.mem_append_left _ hb)
theorem own_one (h : OwnOff own A) (ha : a ∈ A) : OwnOff own [a] := fun p hp b hb => by rw [List.mem_singleton.mp hb]; exact h p hp a ha
theorem own_cons (h : OwnOff own [a]) (k : OwnOff own A) : OwnOff own (a :: A) := fun p hp b hb => (List.mem_cons.mp hb).elim (fun e => e ▸ h p hp a (.head _)) (k p hp b)
theorem own_two (h : OwnOff own A) (ha : a ∈ A) (hb : b ∈ A) : OwnOff own [a, b] := own_cons (own_one h ha) (own_one h hb)
theorem own_app (h : OwnOff own A) (k : OwnOff own2 A) : OwnOff (own ++ own2) A := fun p hp => (List.mem_append.mp hp).elim (h p) (k p)
theorem own_drop (h : OwnOff own (a :: A)) : OwnOff own A := fun p hp b hb => h p hp b (.tail _ hb)
end
theorem gen_st1 {M : Model} {A : Around} {Q : Unit → Shared → Prop} {E : Value → Shared → Prop} {s : Shared} {env : Env} {x : Str} {n : Int} {a b : Nat} (k : ∀ t, wpAny M A (storeName env x (.int n t)) Q E s) : wpAny M A (storeName env x (.int n (a + b))) Q E s := k _
theorem gen_st2 {M : Model} {A : Around} {Q : Unit → Shared → Prop} {E : Value → Shared → Prop} {s s' : Shared} {env : Env} {x : Str} {n : Int} (k : ∀ t, wpAny M A (storeName env x (.int n t)) Q E s) : wpAny M A (storeName env x (.int n (Shared.toks s'))) Q E s := k _

theorem filled : PySem.Challenge.rw_tk0119_01 = PySem.Challenge.rw_tk0119_01 ∧ hd.heap_39 = hd.heap_39 := by
  k_fill
  exact ⟨rfl, rfl⟩

noncomputable def JarIs (jar : Addr) (lim : Int) (news : List (Addr × Obj)) : Prop :=
  ∃ g mx c t1 t2 t3 n, 0 ≤ g ∧ 0 ≤ mx ∧ mx < 10007 ∧ 0 ≤ c ∧ c ≤ lim ∧ (jar, listOf #[.int g t1, .int mx t2, .int c t3] n) ∈ news
noncomputable def TakePost (many : Int) (jar : Addr) (lim : Int) (v : Value) (news : List (Addr × Obj)) (_ : Heap) : Prop :=
  ∃ d t, v = .int d t ∧ 0 ≤ d ∧ d < many ∧ ∃ g mx c t1 t2 t3 n, 0 ≤ g ∧ 0 ≤ mx ∧ mx < 10007 ∧ 0 ≤ c ∧ c ≤ lim ∧ (jar, listOf #[.int g t1, .int mx t2, .int c t3] n) ∈ news

theorem getD0 (a b c d : Int) : [a, b, c].getD (Int.toNat 0) d = a := rfl
theorem getD1 (a b c d : Int) : [a, b, c].getD (Int.toNat 1) d = b := rfl
theorem getD2 (a b c d : Int) : [a, b, c].getD (Int.toNat 2) d = c := rfl
local macro_rules | `(tactic| walk_at "binaryOp Pow int int") => `(tactic| ((with_reducible refine pow_int_small ?_ ?_ ?_ ?_) <;> first | (simp only [getD0, getD1, getD2]; omega) | skip))
set_option maxHeartbeats 8000000 in
theorem take_does (w : World) (jar : Addr) (g mx c : Int) (t1 t2 t3 : Tok) (n : Nat) (many : Int) (tm : Tok) (hg : 0 ≤ g) (hm0 : 0 ≤ mx) (hm1 : mx < 10007) (hc0 : 0 ≤ c) (hc1 : c < 1000000) (hm : 0 < many) (hmm : many < 1000) :
    Does w 247 [.ref jar, .int many tm] 1 [(jar, listOf #[.int g t1, .int mx t2, .int c t3] n)] (fun _ => True) (TakePost many jar (c + 1)) := by
  refine' does_of [(Str.ofString "jar", .ref jar), (Str.ofString "many", .int many tm)] ?ho ?hcd ?hbind ?hloc ?c2 ?c3 ?c4 ?c5 ?cP ?body
  case ho => k_is
  case hcd => k_is
  case hbind => exact fun _ _ => BindsTo.of_eq rfl
  case hloc => exact locs rfl
  case c2 => exact rfl
  case c3 => exact rfl
  case c4 => exact rfl
  case c5 => decide
  case cP => exact fun _ _ _ h => h
  case body =>
    intro mg mb p loose mean base env outer dp un gd s g' L' h' tk0 cx hdp hun _ B' X' T' G' F' N'
    k_fold
    k_steps
    all_goals ((try dsimp only); (try k_unfold); refine leaf_ret (by assumption) (by assumption) ?_)
    · refine ⟨_, _, rfl, fmod_lo _ hm, fmod_hi _ hm, _, _, _, _, _, _, _, ?_, hm0, hm1, hc0, by omega, List.Mem.head _⟩
      exact Int.fdiv_nonneg hg (by omega)
    · refine ⟨_, _, rfl, fmod_lo _ hm, fmod_hi _ hm, _, _, _, _, _, _, _, hg, hm0, hm1, ?_, ?_, List.Mem.head _⟩
      · show 0 ≤ c + 1; omega
      · show c + 1 ≤ c + 1; omega

theorem word6 : True := by
  (k_with "w:execs cons" => row_timed "z" (first | (with_reducible refine gen_toks (fun z9tk' => wpAny_execs_cons ?_)) | (with_reducible refine wpAny_execs_cons ?_)))
  trivial

theorem word7 : True := by
  (k_with "w:storeName" => row_timed "z" (first | (with_reducible refine gen_st1 (fun z9tk' => ?_)) | (with_reducible refine gen_st2 (fun z9tk' => ?_))))
  trivial

theorem word8 : True := by
  (k_with "w:subscriptTail Name Slice ref ref" => row_timed "z" ((k_here; (with_reducible show wpAny _ _ (subscriptTail _ (PySem.Expr.Slice _ _ none _) (Value.ref _) (Value.ref _)) _ _ _); (k_dflt (refine' kmk_slice_ints ?z9F ?z9N ?z9l ?z9p ?z9q ?z9i ?z9m ?z9c ?_ ?z9s ?z9t ?z9z)); (case z9F => k_asm); (case z9N => k_asm); (case z9l => kmk_list); (case z9p => kmk_part); (case z9q => kmk_part); (case z9i => l_ints); (case z9m => kmk_nums); (case z9c => kmk_len); (case z9s => with_unfolding_all rfl); (case z9t => kmk_pure); (case z9z => kmk_size); intro z9D' z9ws' z9h' z9F' z9N' z9l1 z9hI' z9hC' z9hL'; (try simp only [Int.reduceNeg, Int.neg_neg, Int.reduceToNat] at z9hI' z9hC' z9hL'); (try k_lt z9l1); (try k_sweep))))
  trivial

local macro_rules | `(tactic| k_inst) => `(tactic| first | exact inst_base2 (by k_asm) (by assumption) (by assumption) | exact inst_base1 (by k_asm) (by assumption) (by k_asm) (by k_mem))


noncomputable def toldBy (a b c value lit : Int) : Int × Int :=
  if 3 < value then (value - 3, 3)
  else
    let place := if 0 < lit then value - 1 else value
    if place = 3 then (a - 1, 3) else ([a, b, c].getD place.toNat 0, place)
theorem tb_hi {a b c value lit : Int} (h : 3 < value) : toldBy a b c value lit = (value - 3, 3) := by unfold toldBy; rw [if_pos h]
theorem tb_a {a b c value lit : Int} (h : ¬ 3 < value) (hl : 0 < lit) (e : value - 1 = 3) : toldBy a b c value lit = (a - 1, 3) := by unfold toldBy; rw [if_neg h, if_pos hl, if_pos e]
theorem tb_b {a b c value lit : Int} (h : ¬ 3 < value) (hl : 0 < lit) (e : ¬ value - 1 = 3) : toldBy a b c value lit = ([a, b, c].getD (value - 1).toNat 0, value - 1) := by unfold toldBy; rw [if_neg h, if_pos hl, if_neg e]
theorem tb_c {a b c value lit : Int} (h : ¬ 3 < value) (hl : ¬ 0 < lit) (e : value = 3) : toldBy a b c value lit = (a - 1, 3) := by unfold toldBy; rw [if_neg h, if_neg hl, if_pos e]
theorem tb_d {a b c value lit : Int} (h : ¬ 3 < value) (hl : ¬ 0 < lit) (e : ¬ value = 3) : toldBy a b c value lit = ([a, b, c].getD value.toNat 0, value) := by unfold toldBy; rw [if_neg h, if_neg hl, if_neg e]
noncomputable def PairPost (r : Int × Int) (v : Value) (news : List (Addr × Obj)) (_ : Heap) : Prop :=
  ∃ t u1 u2 nn, v = .ref t ∧ (t, ({ cls := .type "tuple", data := .seq [Value.int r.1 u1, Value.int r.2 u2].toArray nn } : Obj)) ∈ news
theorem pair_post {r : Int × Int} {t : Addr} {d e : Int} {u1 u2 : Tok} {nn : Nat} {news : List (Addr × Obj)} {h : Heap} (e1 : r = (d, e)) (hm : (t, ({ cls := .type "tuple", data := .seq [Value.int d u1, Value.int e u2].toArray nn } : Obj)) ∈ news) : PairPost r (.ref t) news h :=
  ⟨t, u1, u2, nn, rfl, by rw [e1]; exact hm⟩
noncomputable def RowPost (a b c : Int) (v : Value) (news : List (Addr × Obj)) (_ : Heap) : Prop :=
  ∃ t u1 u2 u3 nn, v = .ref t ∧ (t, ({ cls := .type "tuple", data := .seq [Value.int a u1, Value.int b u2, Value.int c u3].toArray nn } : Obj)) ∈ news

set_option maxHeartbeats 8000000 in
theorem row_does (w : World) (x dx : Addr) (h1 h2 h3 : Int) (k1 k2 k3 : Tok) (a b c : Int) (ta tb tc : Tok) :
    Does w 88 [.ref x] 2 [] (fun h => h.get? x = some (instObj 126 dx) ∧ h.get? dx = some (dictOf [⟨h1, .str "one" k1, .int a ta⟩, ⟨h2, .str "two" k2, .int b tb⟩, ⟨h3, .str "three" k3, .int c tc⟩] 3)) (RowPost a b c) := by
  refine' does_of [(Str.ofString "self", .ref x)] ?ho ?hcd ?hbind ?hloc ?c2 ?c3 ?c4 ?c5 ?cP ?body
  case ho => k_is
  case hcd => k_is
  case hbind => exact fun _ _ => BindsTo.of_eq rfl
  case hloc => exact locs rfl
  case c2 => exact rfl
  case c3 => exact rfl
  case c4 => exact rfl
  case c5 => decide
  case cP => exact fun _ _ g h => ⟨g _ _ h.1 (by simp), g _ _ h.2 (by simp)⟩
  case body =>
    intro mg mb p loose mean base env outer dp un gd s g' L' h' tk0 cx hdp hun hp B' X' T' G' F' N'
    obtain ⟨hpx, hpd⟩ := hp
    k_fold
    k_steps
    all_goals (try dsimp only)
    all_goals (try k_unfold)
    all_goals (refine leaf_ret (by assumption) (by assumption) ⟨_, _, _, _, _, rfl, by k_mem⟩)

theorem word9 : True := by
  (k_with "w:call ref" => row_timed "z" ((k_here; (with_reducible show wpAny _ _ (call (Value.ref 88) _) _ _ _); (k_dflt (refine' does_use0 (row_does _ _ _ _ _ _ _ _ _ _ _ _ _ _ _) ?z9cx ?z9F ?z9N ?z9hp ?z9hdp ?z9hun ?_)); (case z9cx => k_dflt k_asm); (case z9F => k_dflt k_asm); (case z9N => k_dflt k_asm); (case z9hp => k_dflt (exact ⟨by (first | exact got_base (by k_asm) (by assumption) | exact got_news (by k_asm) (by k_mem)), by (first | exact got_base (by k_asm) (by assumption) | exact got_news (by k_asm) (by k_mem))⟩)); (case z9hdp => ((try dsimp only [top]); omega)); (case z9hun => ((try dsimp only [top]); omega));  k_whole; (k_dflt (rintro z9v' z9new' z9h' z9tk' z9F' z9N' z9hnew' z9st' z9hpost'; refine (let z9G' : Prop := _; (?_ : z9G')); obtain ⟨z9t', z9u1', z9u2', z9u3', z9nn', z9e', z9hm'⟩ := z9hpost')); subst z9e'; (replace z9N' := (z9hnew' _ z9hm').news z9N'); (have z9hne' := (z9hnew' _ z9hm').ne); (try dsimp only [AllNe] at z9hne'); clear z9hnew' z9hm' z9st'; (try k_unmd); (try k_unfold); (try dsimp only); (try k_fold))))
  trivial

set_option maxHeartbeats 8000000 in
theorem told_does (w : World) (x dx : Addr) (h1 h2 h3 : Int) (k1 k2 k3 : Tok) (a b c : Int) (ta tb tc : Tok) (value lit : Int) (tv tl : Tok) (hv : 1 ≤ value) (hl : 0 ≤ lit) :
    Does w 102 [.ref x, .int value tv, .int lit tl] 3 [] (fun h => h.get? x = some (instObj 126 dx) ∧ h.get? dx = some (dictOf [⟨h1, .str "one" k1, .int a ta⟩, ⟨h2, .str "two" k2, .int b tb⟩, ⟨h3, .str "three" k3, .int c tc⟩] 3)) (PairPost (toldBy a b c value lit)) := by
  refine' does_of [(Str.ofString "self", .ref x), (Str.ofString "value", .int value tv), (Str.ofString "literals", .int lit tl)] ?ho ?hcd ?hbind ?hloc ?c2 ?c3 ?c4 ?c5 ?cP ?body
  case ho => k_is
  case hcd => k_is
  case hbind => exact fun _ _ => BindsTo.of_eq rfl
  case hloc => exact locs rfl
  case c2 => exact rfl
  case c3 => exact rfl
  case c4 => exact rfl
  case c5 => decide
  case cP => exact fun _ _ g h => ⟨g _ _ h.1 (by simp), g _ _ h.2 (by simp)⟩
  case body =>
    intro mg mb p loose mean base env outer dp un gd s g' L' h' tk0 cx hdp hun hp B' X' T' G' F' N'
    obtain ⟨hpx, hpd⟩ := hp
    k_fold
    k_steps
    all_goals (try dsimp only)
    all_goals (try k_unfold)
    all_goals (refine leaf_ret (by assumption) (by assumption) (pair_post ?_ (by k_mem)))
    all_goals (first | exact tb_hi (by omega) | exact tb_b (by omega) (by omega) (by omega) | exact tb_c (by omega) (by omega) (by omega) | exact tb_d (by omega) (by omega) (by omega) | exact tb_a (by omega) (by omega) (by omega))

theorem word10 : True := by
  (k_with "w:call ref" => row_timed "z" ((k_here; (with_reducible show wpAny _ _ (call (Value.ref 102) _) _ _ _); (k_dflt (refine' does_use0 (told_does _ _ _ _ _ _ _ _ _ _ _ _ _ _ _ _ _ _ _ ?z9hv ?z9hl) ?z9cx ?z9F ?z9N ?z9hp ?z9hdp ?z9hun ?_)); (case z9cx => k_dflt k_asm); (case z9F => k_dflt k_asm); (case z9N => k_dflt k_asm); (case z9hp => k_dflt (exact ⟨by (first | exact got_base (by k_asm) (by assumption) | exact got_news (by k_asm) (by k_mem)), by (first | exact got_base (by k_asm) (by assumption) | exact got_news (by k_asm) (by k_mem))⟩)); (case z9hdp => ((try dsimp only [top]); omega)); (case z9hun => ((try dsimp only [top]); omega)); (case z9hv => omega); (case z9hl => omega); k_whole; (k_dflt (rintro z9v' z9new' z9h' z9tk' z9F' z9N' z9hnew' z9st' z9hpost'; refine (let z9G' : Prop := _; (?_ : z9G')); obtain ⟨z9t', z9u1', z9u2', z9nn', z9e', z9hm'⟩ := z9hpost')); subst z9e'; (replace z9N' := (z9hnew' _ z9hm').news z9N'); (have z9hne' := (z9hnew' _ z9hm').ne); (try dsimp only [AllNe] at z9hne'); clear z9hnew' z9hm' z9st'; (try k_unmd); (try k_unfold); (try dsimp only); (try k_fold))))
  trivial

theorem word11 : True := by
  (k_with "om" => row_timed "z" (first | (k_whole; with_reducible first | exact (by assumption) | decide | exact Int.natCast_nonneg _ | exact cast_nn1 _ | exact Nat.le_refl _ | exact dep_lt (by assumption) (by decide) | exact dep_lt1 (by assumption) (by decide) | exact Nat.le_of_lt (by assumption) | exact lt_le _ (by assumption) (by decide) | exact cast_lt _ (by assumption) (by decide) | exact lt_le 100 (by assumption) (by decide) | exact cast_lt 100 (by assumption) (by decide) | exact lt_le 1000 (by assumption) (by decide) | exact cast_lt 1000 (by assumption) (by decide) | exact lt_le' _ (by assumption) (by decide) | exact cast_lt1 100 (by assumption) (by decide)) | ((repeat (rename (@LT.lt Nat _ _ _ ∧ _) => z9q; clear z9q)); (repeat (rename (@Ne Nat _ _ ∧ _) => z9q; clear z9q)); lia) | lia))
  trivial

theorem word12 : True := by
  (k_with "ne" => row_timed "z" (first | (k_whole; with_reducible first | exact (by assumption) | exact ne_lt (by assumption) | exact ne_gt (by assumption) | exact ne_sy (by assumption) | (refine has_lt (by assumption) ?_; intro z9h; first | exact ne_lt z9h.1 | exact ne_lt z9h.2 | exact ne_lt z9h.2.1 | exact ne_lt z9h.2.2 | exact ne_lt z9h.2.2.1 | exact ne_lt z9h.2.2.2 | exact ne_lt z9h.2.2.2.1 | exact ne_lt z9h.2.2.2.2 | exact ne_lt z9h.2.2.2.2.1 | exact ne_lt z9h.2.2.2.2.2 | exact ne_lt z9h.2.2.2.2.2.1 | exact ne_lt z9h.2.2.2.2.2.2 | exact ne_lt z9h.2.2.2.2.2.2.1 | exact ne_lt z9h.2.2.2.2.2.2.2 | exact ne_lt z9h.2.2.2.2.2.2.2.1 | exact ne_lt z9h.2.2.2.2.2.2.2.2 | exact ne_lt z9h.2.2.2.2.2.2.2.2.1 | exact ne_lt z9h.2.2.2.2.2.2.2.2.2 | exact ne_lt z9h.2.2.2.2.2.2.2.2.2.1 | exact ne_lt z9h.2.2.2.2.2.2.2.2.2.2 | exact ne_lt z9h.2.2.2.2.2.2.2.2.2.2.1 | exact ne_lt z9h.2.2.2.2.2.2.2.2.2.2.2 | exact ne_lt z9h.2.2.2.2.2.2.2.2.2.2.2.1 | exact ne_lt z9h.2.2.2.2.2.2.2.2.2.2.2.2 | exact ne_lt z9h.2.2.2.2.2.2.2.2.2.2.2.2.1 | exact ne_lt z9h.2.2.2.2.2.2.2.2.2.2.2.2.2 | exact ne_lt z9h.2.2.2.2.2.2.2.2.2.2.2.2.2.1 | exact ne_lt z9h.2.2.2.2.2.2.2.2.2.2.2.2.2.2 | exact ne_lt z9h.2.2.2.2.2.2.2.2.2.2.2.2.2.2.1 | exact ne_lt z9h.2.2.2.2.2.2.2.2.2.2.2.2.2.2.2 | exact ne_lt z9h.2.2.2.2.2.2.2.2.2.2.2.2.2.2.2.1 | exact ne_lt z9h.2.2.2.2.2.2.2.2.2.2.2.2.2.2.2.2) | (refine has_gt (by assumption) ?_; intro z9h; first | exact ne_gt z9h.1 | exact ne_gt z9h.2 | exact ne_gt z9h.2.1 | exact ne_gt z9h.2.2 | exact ne_gt z9h.2.2.1 | exact ne_gt z9h.2.2.2 | exact ne_gt z9h.2.2.2.1 | exact ne_gt z9h.2.2.2.2 | exact ne_gt z9h.2.2.2.2.1 | exact ne_gt z9h.2.2.2.2.2 | exact ne_gt z9h.2.2.2.2.2.1 | exact ne_gt z9h.2.2.2.2.2.2 | exact ne_gt z9h.2.2.2.2.2.2.1 | exact ne_gt z9h.2.2.2.2.2.2.2 | exact ne_gt z9h.2.2.2.2.2.2.2.1 | exact ne_gt z9h.2.2.2.2.2.2.2.2 | exact ne_gt z9h.2.2.2.2.2.2.2.2.1 | exact ne_gt z9h.2.2.2.2.2.2.2.2.2 | exact ne_gt z9h.2.2.2.2.2.2.2.2.2.1 | exact ne_gt z9h.2.2.2.2.2.2.2.2.2.2 | exact ne_gt z9h.2.2.2.2.2.2.2.2.2.2.1 | exact ne_gt z9h.2.2.2.2.2.2.2.2.2.2.2 | exact ne_gt z9h.2.2.2.2.2.2.2.2.2.2.2.1 | exact ne_gt z9h.2.2.2.2.2.2.2.2.2.2.2.2 | exact ne_gt z9h.2.2.2.2.2.2.2.2.2.2.2.2.1 | exact ne_gt z9h.2.2.2.2.2.2.2.2.2.2.2.2.2 | exact ne_gt z9h.2.2.2.2.2.2.2.2.2.2.2.2.2.1 | exact ne_gt z9h.2.2.2.2.2.2.2.2.2.2.2.2.2.2 | exact ne_gt z9h.2.2.2.2.2.2.2.2.2.2.2.2.2.2.1 | exact ne_gt z9h.2.2.2.2.2.2.2.2.2.2.2.2.2.2.2 | exact ne_gt z9h.2.2.2.2.2.2.2.2.2.2.2.2.2.2.2.1 | exact ne_gt z9h.2.2.2.2.2.2.2.2.2.2.2.2.2.2.2.2) | (refine has_ne (by assumption) ?_; intro z9h; first | exact z9h.1 | exact z9h.2 | exact z9h.2.1 | exact z9h.2.2 | exact z9h.2.2.1 | exact z9h.2.2.2 | exact z9h.2.2.2.1 | exact z9h.2.2.2.2 | exact z9h.2.2.2.2.1 | exact z9h.2.2.2.2.2 | exact z9h.2.2.2.2.2.1 | exact z9h.2.2.2.2.2.2 | exact z9h.2.2.2.2.2.2.1 | exact z9h.2.2.2.2.2.2.2 | exact z9h.2.2.2.2.2.2.2.1 | exact z9h.2.2.2.2.2.2.2.2 | exact z9h.2.2.2.2.2.2.2.2.1 | exact z9h.2.2.2.2.2.2.2.2.2 | exact z9h.2.2.2.2.2.2.2.2.2.1 | exact z9h.2.2.2.2.2.2.2.2.2.2 | exact z9h.2.2.2.2.2.2.2.2.2.2.1 | exact z9h.2.2.2.2.2.2.2.2.2.2.2 | exact z9h.2.2.2.2.2.2.2.2.2.2.2.1 | exact z9h.2.2.2.2.2.2.2.2.2.2.2.2 | exact z9h.2.2.2.2.2.2.2.2.2.2.2.2.1 | exact z9h.2.2.2.2.2.2.2.2.2.2.2.2.2 | exact z9h.2.2.2.2.2.2.2.2.2.2.2.2.2.1 | exact z9h.2.2.2.2.2.2.2.2.2.2.2.2.2.2 | exact z9h.2.2.2.2.2.2.2.2.2.2.2.2.2.2.1 | exact z9h.2.2.2.2.2.2.2.2.2.2.2.2.2.2.2 | exact z9h.2.2.2.2.2.2.2.2.2.2.2.2.2.2.2.1 | exact z9h.2.2.2.2.2.2.2.2.2.2.2.2.2.2.2.2) | (refine has_sy (by assumption) ?_; intro z9h; first | exact ne_sy z9h.1 | exact ne_sy z9h.2 | exact ne_sy z9h.2.1 | exact ne_sy z9h.2.2 | exact ne_sy z9h.2.2.1 | exact ne_sy z9h.2.2.2 | exact ne_sy z9h.2.2.2.1 | exact ne_sy z9h.2.2.2.2 | exact ne_sy z9h.2.2.2.2.1 | exact ne_sy z9h.2.2.2.2.2 | exact ne_sy z9h.2.2.2.2.2.1 | exact ne_sy z9h.2.2.2.2.2.2 | exact ne_sy z9h.2.2.2.2.2.2.1 | exact ne_sy z9h.2.2.2.2.2.2.2 | exact ne_sy z9h.2.2.2.2.2.2.2.1 | exact ne_sy z9h.2.2.2.2.2.2.2.2 | exact ne_sy z9h.2.2.2.2.2.2.2.2.1 | exact ne_sy z9h.2.2.2.2.2.2.2.2.2 | exact ne_sy z9h.2.2.2.2.2.2.2.2.2.1 | exact ne_sy z9h.2.2.2.2.2.2.2.2.2.2 | exact ne_sy z9h.2.2.2.2.2.2.2.2.2.2.1 | exact ne_sy z9h.2.2.2.2.2.2.2.2.2.2.2 | exact ne_sy z9h.2.2.2.2.2.2.2.2.2.2.2.1 | exact ne_sy z9h.2.2.2.2.2.2.2.2.2.2.2.2 | exact ne_sy z9h.2.2.2.2.2.2.2.2.2.2.2.2.1 | exact ne_sy z9h.2.2.2.2.2.2.2.2.2.2.2.2.2 | exact ne_sy z9h.2.2.2.2.2.2.2.2.2.2.2.2.2.1 | exact ne_sy z9h.2.2.2.2.2.2.2.2.2.2.2.2.2.2 | exact ne_sy z9h.2.2.2.2.2.2.2.2.2.2.2.2.2.2.1 | exact ne_sy z9h.2.2.2.2.2.2.2.2.2.2.2.2.2.2.2 | exact ne_sy z9h.2.2.2.2.2.2.2.2.2.2.2.2.2.2.2.1 | exact ne_sy z9h.2.2.2.2.2.2.2.2.2.2.2.2.2.2.2.2)) | lia))
  trivial


noncomputable def moveO (a b c d p : Int) : Int × Int × Int := if p = 1 then (d, a, c) else if 1 < p then (d, a, b) else (a, b, c)
theorem mv_1 {a b c d p : Int} (h : p = 1) : moveO a b c d p = (d, a, c) := if_pos h
theorem mv_2 {a b c d p : Int} (h : 1 < p) : moveO a b c d p = (d, a, b) := by unfold moveO; rw [if_neg (by omega), if_pos h]
theorem mv_0 {a b c d p : Int} (h : ¬ p = 1) (h' : ¬ 1 < p) : moveO a b c d p = (a, b, c) := by unfold moveO; rw [if_neg h, if_neg h']
noncomputable def OffIs (dx : Addr) (h1 h2 h3 : Int) (k1 k2 k3 : Tok) (r : Int × Int × Int) (news : List (Addr × Obj)) : Prop :=
  ∃ ta tb tc, (dx, dictOf [⟨h1, .str "one" k1, .int r.1 ta⟩, ⟨h2, .str "two" k2, .int r.2.1 tb⟩, ⟨h3, .str "three" k3, .int r.2.2 tc⟩] 3) ∈ news
theorem off_is {dx : Addr} {h1 h2 h3 : Int} {k1 k2 k3 : Tok} {r : Int × Int × Int} {news : List (Addr × Obj)} {a b c : Int} {ta tb tc : Tok} (e : r = (a, b, c)) (hm : (dx, dictOf [⟨h1, .str "one" k1, .int a ta⟩, ⟨h2, .str "two" k2, .int b tb⟩, ⟨h3, .str "three" k3, .int c tc⟩] 3) ∈ news) : OffIs dx h1 h2 h3 k1 k2 k3 r news := ⟨ta, tb, tc, by rw [e]; exact hm⟩

set_option maxHeartbeats 8000000 in
theorem move_does (w : World) (x dx : Addr) (h1 h2 h3 : Int) (k1 k2 k3 : Tok) (a b c : Int) (ta tb tc : Tok) (d p : Int) (td tp : Tok) (hx : x ≠ dx) :
    Does w 109 [.ref x, .int d td, .int p tp] 1 [(dx, dictOf [⟨h1, .str "one" k1, .int a ta⟩, ⟨h2, .str "two" k2, .int b tb⟩, ⟨h3, .str "three" k3, .int c tc⟩] 3)] (fun h => h.get? x = some (instObj 126 dx)) (fun v news _ => v = .none ∧ OffIs dx h1 h2 h3 k1 k2 k3 (moveO a b c d p) news) := by
  refine' does_of [(Str.ofString "self", .ref x), (Str.ofString "distance", .int d td), (Str.ofString "place", .int p tp)] ?ho ?hcd ?hbind ?hloc ?c2 ?c3 ?c4 ?c5 ?cP ?body
  case ho => k_is
  case hcd => k_is
  case hbind => exact fun _ _ => BindsTo.of_eq rfl
  case hloc => exact locs rfl
  case c2 => exact rfl
  case c3 => exact rfl
  case c4 => exact rfl
  case c5 => decide
  case cP => exact fun _ _ g h => g _ _ h (by simp [hx])
  case body =>
    intro mg mb p loose mean base env outer dp un gd s g' L' h' tk0 cx hdp hun hp B' X' T' G' F' N'
    have hpx := hp
    try k_unmd
    k_fold
    k_steps
    all_goals (try dsimp only)
    all_goals (try k_unfold)
    all_goals (first | refine leaf_next (by assumption) (by assumption) ?_ | refine leaf_ret (by assumption) (by assumption) ?_)
    all_goals (refine ⟨rfl, off_is ?_ (by k_mem)⟩)
    all_goals (first | exact mv_1 (by omega) | exact mv_2 (by omega) | exact mv_0 (by omega) (by omega))

theorem word13 : True := by
  (k_with "w:call ref" => row_timed "z" ((k_here; (with_reducible show wpAny _ _ (call (Value.ref 109) _) _ _ _); (k_dflt (refine' does_use1 (move_does _ _ _ _ _ _ _ _ _ _ _ _ _ _ _ _ _ _ _ ?z9hx) ?z9cx ?z9F ?z9N ?z9U ?z9hp ?z9hdp ?z9hun ?_)); (case z9cx => k_dflt k_asm); (case z9F => k_dflt k_asm); (case z9N => k_dflt k_asm); (case z9hp => k_dflt (exact (by (first | exact got_base (by k_asm) (by assumption) | exact got_news (by k_asm) (by k_mem))))); (case z9U => k_updF); (case z9hdp => ((try dsimp only [top]); omega)); (case z9hun => ((try dsimp only [top]); omega)); (case z9hx => first | k_ne | omega | assumption | k_dflt exact neN (by omega)); k_whole; (k_dflt (rintro z9v' z9new' z9h' z9tk' z9F' z9N' z9hnew' z9st' z9hpost'; refine (let z9G' : Prop := _; (?_ : z9G')); obtain ⟨z9e', z9ho'⟩ := z9hpost')); (k_dflt obtain ⟨z9ta', z9tb', z9tc', z9hm'⟩ := z9ho'); subst z9e'; (replace z9N' := z9N' _ z9hm'); (try dsimp only at z9N'); clear z9hnew' z9hm' z9st'; (try k_unmd); (try k_unfold); (try dsimp only); (try k_fold))))
  trivial

set_option maxHeartbeats 8000000 in
theorem dist_does (w : World) (x dx : Addr) (h1 h2 h3 : Int) (k1 k2 k3 : Tok) (a b c : Int) (ta tb tc : Tok) (value lit : Int) (tv tl : Tok) (hx : x ≠ dx) (hv : 1 ≤ value) (hl : 0 ≤ lit) (hne : (toldBy a b c value lit).1 ≠ 0) :
    Does w 116 [.ref x, .int value tv, .int lit tl] 4 [(dx, dictOf [⟨h1, .str "one" k1, .int a ta⟩, ⟨h2, .str "two" k2, .int b tb⟩, ⟨h3, .str "three" k3, .int c tc⟩] 3)] (fun h => h.get? x = some (instObj 126 dx)) (fun v news _ => ∃ t, v = .int (toldBy a b c value lit).1 t ∧ OffIs dx h1 h2 h3 k1 k2 k3 (moveO a b c (toldBy a b c value lit).1 (toldBy a b c value lit).2) news) := by
  refine' does_of [(Str.ofString "self", .ref x), (Str.ofString "value", .int value tv), (Str.ofString "literals", .int lit tl)] ?ho ?hcd ?hbind ?hloc ?c2 ?c3 ?c4 ?c5 ?cP ?body
  case ho => k_is
  case hcd => k_is
  case hbind => exact fun _ _ => BindsTo.of_eq rfl
  case hloc => exact locs rfl
  case c2 => exact rfl
  case c3 => exact rfl
  case c4 => exact rfl
  case c5 => decide
  case cP => exact fun _ _ g h => g _ _ h (by simp [hx])
  case body =>
    intro mg mb p loose mean base env outer dp un gd s g' L' h' tk0 cx hdp hun hp B' X' T' G' F' N'
    have hpx := hp
    try k_unmd
    k_fold
    k_steps
    all_goals (try dsimp only)
    all_goals (try k_unfold)
    all_goals (first | refine leaf_ret (by assumption) (by assumption) ?_ | (exfalso; omega))
    all_goals (exact ⟨_, rfl, off_is rfl (by k_mem)⟩)

theorem word14 : True := by
  (k_with "w:call ref" => row_timed "z" ((k_here; (with_reducible show wpAny _ _ (call (Value.ref 116) _) _ _ _); (k_dflt (refine' does_use1 (dist_does _ _ _ _ _ _ _ _ _ _ _ _ _ _ _ _ _ _ _ ?z9hx ?z9hv ?z9hl ?z9hne) ?z9cx ?z9F ?z9N ?z9U ?z9hp ?z9hdp ?z9hun ?_)); (case z9cx => k_dflt k_asm); (case z9F => k_dflt k_asm); (case z9N => k_dflt k_asm); (case z9hp => k_dflt (exact (by (first | exact got_base (by k_asm) (by assumption) | exact got_news (by k_asm) (by k_mem))))); (case z9U => k_updF); (case z9hdp => ((try dsimp only [top]); omega)); (case z9hun => ((try dsimp only [top]); omega)); (case z9hx => first | k_ne | omega | assumption | k_dflt exact neN (by omega)); (case z9hv => omega); (case z9hl => omega); (case z9hne => first | omega | (rw [tb_hi (by omega)]; show ¬ (_ : Int) = 0; omega)); k_whole; (k_dflt (rintro z9v' z9new' z9h' z9tk' z9F' z9N' z9hnew' z9st' z9hpost'; refine (let z9G' : Prop := _; (?_ : z9G')); obtain ⟨z9t', z9e', z9ho'⟩ := z9hpost')); (k_dflt obtain ⟨z9ta', z9tb', z9tc', z9hm'⟩ := z9ho'); subst z9e'; (replace z9N' := z9N' _ z9hm'); (try dsimp only at z9N'); clear z9hnew' z9hm' z9st'; (try k_unmd); (try k_unfold); (try dsimp only); (try k_fold))))
  trivial

theorem word15 : True := by
  (k_with "w:exec If" => row_timed "z" (((with_reducible rename IfMark => z9hF9); (with_reducible show wpAny _ _ (exec (PySem.Stmt.If (PySem.Expr.Compare (PySem.Expr.Subscript ..) _ _ _) _ _ _) _) _ _ _); refine stop_ ?_)))
  trivial


noncomputable def valueO (a b c d lit : Int) : Int := if (toldBy a b c 1 lit).1 = d then 1 else if (toldBy a b c 2 lit).1 = d then 2 else if (toldBy a b c 3 lit).1 = d then 3 else d + 3
theorem vo_1 {a b c d lit : Int} (h : (toldBy a b c 1 lit).1 = d) : valueO a b c d lit = 1 := if_pos h
theorem vo_2 {a b c d lit : Int} (h1 : ¬ (toldBy a b c 1 lit).1 = d) (h : (toldBy a b c 2 lit).1 = d) : valueO a b c d lit = 2 := by unfold valueO; rw [if_neg h1, if_pos h]
theorem vo_3 {a b c d lit : Int} (h1 : ¬ (toldBy a b c 1 lit).1 = d) (h2 : ¬ (toldBy a b c 2 lit).1 = d) (h : (toldBy a b c 3 lit).1 = d) : valueO a b c d lit = 3 := by unfold valueO; rw [if_neg h1, if_neg h2, if_pos h]
theorem vo_4 {a b c d lit : Int} (h1 : ¬ (toldBy a b c 1 lit).1 = d) (h2 : ¬ (toldBy a b c 2 lit).1 = d) (h : ¬ (toldBy a b c 3 lit).1 = d) : valueO a b c d lit = d + 3 := by unfold valueO; rw [if_neg h1, if_neg h2, if_neg h]
theorem vo_t {a b c d lit : Int} (h : 1 ≤ d) : (toldBy a b c (valueO a b c d lit) lit).1 = d := by
  unfold valueO; split
  · assumption
  · split
    · assumption
    · split
      · assumption
      · rw [tb_hi (by omega)]; show d + 3 - 3 = d; omega
theorem vo_pos {a b c d lit : Int} (h : 1 ≤ d) : 1 ≤ valueO a b c d lit := by
  unfold valueO; repeat' split
  all_goals omega
theorem off_cast {dx : Addr} {h1 h2 h3 : Int} {k1 k2 k3 : Tok} {news : List (Addr × Obj)} {a b c d lit : Int} (hd : 1 ≤ d) (v : Int) (e : valueO a b c d lit = v) (h : OffIs dx h1 h2 h3 k1 k2 k3 (moveO a b c (toldBy a b c v lit).1 (toldBy a b c v lit).2) news) :
    OffIs dx h1 h2 h3 k1 k2 k3 (moveO a b c d (toldBy a b c (valueO a b c d lit) lit).2) news := by
  subst e
  rw [vo_t hd] at h
  exact h
theorem value_end {dx : Addr} {h1 h2 h3 : Int} {k1 k2 k3 : Tok} {news : List (Addr × Obj)} {a b c d lit v : Int} {tk : Tok} (hd : 1 ≤ d) (e : valueO a b c d lit = v) (h : OffIs dx h1 h2 h3 k1 k2 k3 (moveO a b c (toldBy a b c v lit).1 (toldBy a b c v lit).2) news) :
    ∃ t, Value.int v tk = Value.int (valueO a b c d lit) t ∧ OffIs dx h1 h2 h3 k1 k2 k3 (moveO a b c d (toldBy a b c (valueO a b c d lit) lit).2) news := ⟨tk, by rw [e], off_cast hd v e h⟩

set_option maxHeartbeats 8000000 in
theorem value_does (w : World) (x dx : Addr) (h1 h2 h3 : Int) (k1 k2 k3 : Tok) (a b c : Int) (ta tb tc : Tok) (d lit : Int) (td tl : Tok) (hx : x ≠ dx) (hv : 1 ≤ d) (hl : 0 ≤ lit) :
    Does w 123 [.ref x, .int d td, .int lit tl] 5 [(dx, dictOf [⟨h1, .str "one" k1, .int a ta⟩, ⟨h2, .str "two" k2, .int b tb⟩, ⟨h3, .str "three" k3, .int c tc⟩] 3)] (fun h => h.get? x = some (instObj 126 dx)) (fun v news _ => ∃ t, v = .int (valueO a b c d lit) t ∧ OffIs dx h1 h2 h3 k1 k2 k3 (moveO a b c d (toldBy a b c (valueO a b c d lit) lit).2) news) := by
  refine' does_of [(Str.ofString "self", .ref x), (Str.ofString "distance", .int d td), (Str.ofString "literals", .int lit tl)] ?ho ?hcd ?hbind ?hloc ?c2 ?c3 ?c4 ?c5 ?cP ?body
  case ho => k_is
  case hcd => k_is
  case hbind => exact fun _ _ => BindsTo.of_eq rfl
  case hloc => exact locs rfl
  case c2 => exact rfl
  case c3 => exact rfl
  case c4 => exact rfl
  case c5 => decide
  case cP => exact fun _ _ g h => g _ _ h (by simp [hx])
  case body =>
    intro mg mb p loose mean base env outer dp un gd s g' L' h' tk0 cx hdp hun hp B' X' T' G' F' N'
    have hpx := hp
    have hIM : IfMark := trivial
    try k_unmd
    k_fold
    k_steps
    refine stop_on ?_
    rename IfMark => hz
    clear hz
    refine cut_led (g := g') (L := L') (by assumption) (fun m => m (Str.ofString "self") = some (.ref x) ∧ m (Str.ofString "distance") = some (.int d td) ∧ m (Str.ofString "literals") = some (.int lit tl) ∧ ∃ v t, m (Str.ofString "value") = some (.int v t) ∧ v = if (toldBy a b c 3 lit).1 = d then 3 else d + 3) ?if3 ?go3
    case if3 =>
      k_steps
      all_goals (try dsimp only)
      all_goals (refine lpost_led (by assumption) (by assumption) (by k_extra "sub") ⟨rfl, rfl, rfl, _, _, rfl, ?_⟩)
      all_goals (first | exact (if_pos (by assumption)).symm | exact (if_neg (by assumption)).symm)
    case go3 =>
      rintro h' tk m' F₁ N₁ ⟨e1, e2, e3, v3, t3, e4, hv3⟩
      have F₂ := fr_lit [(Str.ofString "self", .ref x), (Str.ofString "distance", .int d td), (Str.ofString "literals", .int lit tl), (Str.ofString "value", .int v3 t3)] (List.forall_mem_cons.mpr ⟨e1, List.forall_mem_cons.mpr ⟨e2, List.forall_mem_cons.mpr ⟨e3, List.forall_mem_cons.mpr ⟨e4, List.forall_mem_nil _⟩⟩⟩⟩) F₁
      clear F₁ e1 e2 e3 e4
      dsimp only [kstB] at F₂
      have hIM : IfMark := trivial
      k_steps
      refine stop_on ?_
      rename IfMark => hz
      clear hz
      refine cut_led (g := g') (L := L') (by assumption) (fun m => m (Str.ofString "self") = some (.ref x) ∧ m (Str.ofString "distance") = some (.int d td) ∧ m (Str.ofString "literals") = some (.int lit tl) ∧ ∃ v t, m (Str.ofString "value") = some (.int v t) ∧ v = if (toldBy a b c 2 lit).1 = d then 2 else v3) ?if2 ?go2
      case if2 =>
        k_steps
        all_goals (try dsimp only)
        all_goals (refine lpost_led (by assumption) (by assumption) (by k_extra "sub") ⟨rfl, rfl, rfl, _, _, rfl, ?_⟩)
        all_goals (first | exact (if_pos (by assumption)).symm | exact (if_neg (by assumption)).symm)
      case go2 =>
        rintro h' tk m' F₁ N₁ ⟨e1, e2, e3, v2, t2, e4, hv2⟩
        have F₂ := fr_lit [(Str.ofString "self", .ref x), (Str.ofString "distance", .int d td), (Str.ofString "literals", .int lit tl), (Str.ofString "value", .int v2 t2)] (List.forall_mem_cons.mpr ⟨e1, List.forall_mem_cons.mpr ⟨e2, List.forall_mem_cons.mpr ⟨e3, List.forall_mem_cons.mpr ⟨e4, List.forall_mem_nil _⟩⟩⟩⟩) F₁
        clear F₁ e1 e2 e3 e4
        dsimp only [kstB] at F₂
        have hIM : IfMark := trivial
        k_steps
        refine stop_on ?_
        rename IfMark => hz
        clear hz
        refine cut_led (g := g') (L := L') (by assumption) (fun m => m (Str.ofString "self") = some (.ref x) ∧ m (Str.ofString "distance") = some (.int d td) ∧ m (Str.ofString "literals") = some (.int lit tl) ∧ ∃ v t, m (Str.ofString "value") = some (.int v t) ∧ v = if (toldBy a b c 1 lit).1 = d then 1 else v2) ?if1 ?go1
        case if1 =>
          k_steps
          all_goals (try dsimp only)
          all_goals (refine lpost_led (by assumption) (by assumption) (by k_extra "sub") ⟨rfl, rfl, rfl, _, _, rfl, ?_⟩)
          all_goals (first | exact (if_pos (by assumption)).symm | exact (if_neg (by assumption)).symm)
        case go1 =>
          rintro h' tk m' F₁ N₁ ⟨e1, e2, e3, v1, t1, e4, hv1⟩
          have F₂ := fr_lit [(Str.ofString "self", .ref x), (Str.ofString "distance", .int d td), (Str.ofString "literals", .int lit tl), (Str.ofString "value", .int v1 t1)] (List.forall_mem_cons.mpr ⟨e1, List.forall_mem_cons.mpr ⟨e2, List.forall_mem_cons.mpr ⟨e3, List.forall_mem_cons.mpr ⟨e4, List.forall_mem_nil _⟩⟩⟩⟩) F₁
          clear F₁ e1 e2 e3 e4
          dsimp only [kstB] at F₂
          have hvo : valueO a b c d lit = v1 := by subst hv1 hv2 hv3; rfl
          have hv1p : 1 ≤ v1 := by rw [← hvo]; exact vo_pos hv
          have htd : (toldBy a b c v1 lit).1 = d := by rw [← hvo]; exact vo_t hv
          clear hv1 hv2 hv3
          k_steps
          all_goals (try dsimp only)
          all_goals (try k_unfold)
          all_goals (refine leaf_ret (by assumption) (by assumption) ?_)
          all_goals (exact value_end hv hvo (off_is rfl (by k_mem)))

theorem word16 : True := by
  (k_with "w:call ref" => row_timed "z" ((k_here; (with_reducible show wpAny _ _ (call (Value.ref 123) _) _ _ _); (k_dflt (refine' does_use1 (value_does _ _ _ _ _ _ _ _ _ _ _ _ _ _ _ _ _ _ _ ?z9hx ?z9hv ?z9hl) ?z9cx ?z9F ?z9N ?z9U ?z9hp ?z9hdp ?z9hun ?_)); (case z9cx => k_dflt k_asm); (case z9F => k_dflt k_asm); (case z9N => k_dflt k_asm); (case z9hp => k_dflt (exact (by (first | exact got_base (by k_asm) (by assumption) | exact got_news (by k_asm) (by k_mem))))); (case z9U => k_updF); (case z9hdp => ((try dsimp only [top]); omega)); (case z9hun => ((try dsimp only [top]); omega)); (case z9hx => first | k_ne | omega | assumption | k_dflt exact neN (by omega)); (case z9hv => omega); (case z9hl => omega); k_whole; (k_dflt (rintro z9v' z9new' z9h' z9tk' z9F' z9N' z9hnew' z9st' z9hpost'; refine (let z9G' : Prop := _; (?_ : z9G')); obtain ⟨z9t', z9e', z9ho'⟩ := z9hpost')); (k_dflt obtain ⟨z9ta', z9tb', z9tc', z9hm'⟩ := z9ho'); subst z9e'; (replace z9N' := z9N' _ z9hm'); (try dsimp only at z9N'); clear z9hnew' z9hm' z9st'; (try k_unmd); (try k_unfold); (try dsimp only); (try k_fold))))
  trivial

theorem word17 : True := by
  (k_with "w:subscriptTail Attribute Name Name ref int" => row_timed "z" ((k_here; (with_reducible show wpAny _ _ (subscriptTail _ _ (Value.ref _) (Value.int _ _)) _ _ _); (with_unfolding_all refine' item_list_ints ?z9k1 ?z9k2 ?z9k3 ?z9k4 ?z9k5 ?_; (case z9k1 => is_list); (case z9k2 => l_ints); (case z9k3 => omega); (case z9k4 => omega); (case z9k5 => omega); k_whole); intro _)))
  trivial


theorem is_list_but {h h' : Heap} {adr : List Addr} {l : Addr} {items : Array Value} (g : GSub h h' adr) (x : h.IsList l items) (hl : l ∉ adr) : h'.IsList l items := let ⟨o, ho, r⟩ := x; ⟨o, g l o ho hl, r⟩
noncomputable def RepIs (dx : Addr) (h1 : Int) (k1 : Tok) (ns : List Int) (news : List (Addr × Obj)) : Prop :=
  ∃ l vs n, (dx, dictOf [⟨h1, .str "row" k1, .ref l⟩] 1) ∈ news ∧ (l, listOf vs.toArray n) ∈ news ∧ IntsAre vs ns ∧ l ≠ dx
theorem rep_is {dx : Addr} {h1 : Int} {k1 : Tok} {ns ms : List Int} {news : List (Addr × Obj)} {l : Addr} {vs : List Value} {n : Nat} (h : (dx, dictOf [⟨h1, .str "row" k1, .ref l⟩] 1) ∈ news) (hl : (l, listOf vs.toArray n) ∈ news) (hi : IntsAre vs ns) (e : ns = ms) (hne : l ≠ dx) : RepIs dx h1 k1 ms news := ⟨l, vs, n, h, hl, e ▸ hi, hne⟩

set_option maxHeartbeats 8000000 in
theorem use_does (w : World) (x dx l : Addr) (h1 : Int) (k1 : Tok) (vs : List Value) (ns : List Int) (i : Int) (ti : Tok) (hx : x ≠ dx) (hl : l ≠ dx) (hi : IntsAre vs ns) (h0 : 0 ≤ i) (h1i : i < ns.length) (h4 : ns.length ≤ 4) :
    Does w 167 [.ref x, .int i ti] 2 [(dx, dictOf [⟨h1, .str "row" k1, .ref l⟩] 1)] (fun h => h.get? x = some (instObj 184 dx) ∧ h.IsList l vs.toArray) (fun v news _ => ∃ t, v = .int (ns.getD i.toNat 0) t ∧ RepIs dx h1 k1 (ns.getD i.toNat 0 :: (ns.take i.toNat ++ ns.drop (i.toNat + 1))) news) := by
  refine' does_of [(Str.ofString "self", .ref x), (Str.ofString "index", .int i ti)] ?ho ?hcd ?hbind ?hloc ?c2 ?c3 ?c4 ?c5 ?cP ?body
  case ho => k_is
  case hcd => k_is
  case hbind => exact fun _ _ => BindsTo.of_eq rfl
  case hloc => exact locs rfl
  case c2 => exact rfl
  case c3 => exact rfl
  case c4 => exact rfl
  case c5 => decide
  case cP => exact fun _ _ g h => ⟨g _ _ h.1 (by simp [hx]), is_list_but g h.2 (by simp [hl])⟩
  case body =>
    intro mg mb p loose mean base env outer dp un gd s g' L' h' tk0 cx hdp hun hp B' X' T' G' F' N'
    obtain ⟨hpx, hpl⟩ := hp
    try k_unmd
    k_fold
    k_steps
    all_goals (try dsimp only)
    all_goals (try k_unfold)
    all_goals (refine leaf_ret (by assumption) (by assumption) ?_)
    all_goals (refine' ⟨_, rfl, rep_is ?a ?b ?c ?d ?e⟩)
    case a => k_mem
    case b => k_mem
    case c => assumption
    case d => (rw [show (i + 1).toNat = i.toNat + 1 from by omega]; simp)
    case e => (refine neN ?_; omega)

theorem word18 : True := by
  (k_with "w:call ref" => row_timed "z" ((k_here; (with_reducible show wpAny _ _ (call (Value.ref 167) _) _ _ _); (k_dflt (refine' does_use1 (use_does _ _ _ _ _ _ _ _ _ _ ?z9hx ?z9hl ?z9hi ?z9h0 ?z9h1i ?z9h4) ?z9cx ?z9F ?z9N ?z9U ?z9hp ?z9hdp ?z9hun ?_)); (case z9cx => k_dflt k_asm); (case z9F => k_dflt k_asm); (case z9N => k_dflt k_asm); (case z9hp => k_dflt (exact ⟨by (first | exact got_base (by k_asm) (by assumption) | exact got_news (by k_asm) (by k_mem)), by (first | exact stays_list (Fr.keep (by k_asm)) (by assumption) | exact ⟨_, got_news (by k_asm) (by k_mem), rfl, _, rfl⟩)⟩)); (case z9U => k_updF); (case z9hdp => ((try dsimp only [top]); omega)); (case z9hun => ((try dsimp only [top]); omega)); (case z9hx => first | k_ne | omega); (case z9hl => first | k_ne | omega); (case z9hi => l_ints); (case z9h0 => omega); (case z9h1i => omega); (case z9h4 => omega); k_whole; (k_dflt (rintro z9v' z9new' z9h' z9tk' z9F' z9N' z9hnew' z9st' z9hpost'; refine (let z9G' : Prop := _; (?_ : z9G')); obtain ⟨z9t', z9e', z9ho'⟩ := z9hpost')); subst z9e'; (k_dflt obtain ⟨z9l', z9vs', z9n', z9hm', z9hm2', z9hi', z9hne'⟩ := z9ho'); (replace z9N' := (z9hnew' _ z9hm2' z9hne').news (z9N' _ z9hm')); (have z9hne2' := (z9hnew' _ z9hm2' z9hne').ne); (try dsimp only [AllNe] at z9hne2'); (try dsimp only at z9N'); clear z9hnew' z9hm' z9hm2' z9st'; (try k_unmd); (try k_unfold); (try dsimp only); (try k_fold))))
  trivial

set_option maxHeartbeats 8000000 in
theorem put_does (w : World) (x dx l : Addr) (h1 : Int) (k1 : Tok) (vs : List Value) (ns : List Int) (d : Int) (td : Tok) (hx : x ≠ dx) (hl : l ≠ dx) (hi : IntsAre vs ns) (h4 : ns.length ≤ 4) :
    Does w 174 [.ref x, .int d td] 2 [(dx, dictOf [⟨h1, .str "row" k1, .ref l⟩] 1)] (fun h => h.get? x = some (instObj 184 dx) ∧ h.IsList l vs.toArray) (fun v news _ => v = .none ∧ RepIs dx h1 k1 (d :: ns.take 3) news) := by
  refine' does_of [(Str.ofString "self", .ref x), (Str.ofString "distance", .int d td)] ?ho ?hcd ?hbind ?hloc ?c2 ?c3 ?c4 ?c5 ?cP ?body
  case ho => k_is
  case hcd => k_is
  case hbind => exact fun _ _ => BindsTo.of_eq rfl
  case hloc => exact locs rfl
  case c2 => exact rfl
  case c3 => exact rfl
  case c4 => exact rfl
  case c5 => decide
  case cP => exact fun _ _ g h => ⟨g _ _ h.1 (by simp [hx]), is_list_but g h.2 (by simp [hl])⟩
  case body =>
    intro mg mb p loose mean base env outer dp un gd s g' L' h' tk0 cx hdp hun hp B' X' T' G' F' N'
    obtain ⟨hpx, hpl⟩ := hp
    try k_unmd
    k_fold
    k_steps
    all_goals (try dsimp only)
    all_goals (try k_unfold)
    all_goals (first | refine leaf_next (by assumption) (by assumption) ?_ | refine leaf_ret (by assumption) (by assumption) ?_)
    all_goals (refine' ⟨rfl, rep_is ?a ?b ?c ?d ?e⟩)
    case a => k_mem
    case b => k_mem
    case c => assumption
    case d => simp
    case e => (refine neN ?_; omega)

theorem word19 : True := by
  (k_with "w:call ref" => row_timed "z" ((k_here; (with_reducible show wpAny _ _ (call (Value.ref 174) _) _ _ _); (k_dflt (refine' does_use1 (put_does _ _ _ _ _ _ _ _ _ _ ?z9hx ?z9hl ?z9hi ?z9h4) ?z9cx ?z9F ?z9N ?z9U ?z9hp ?z9hdp ?z9hun ?_)); (case z9cx => k_dflt k_asm); (case z9F => k_dflt k_asm); (case z9N => k_dflt k_asm); (case z9hp => k_dflt (exact ⟨by (first | exact got_base (by k_asm) (by assumption) | exact got_news (by k_asm) (by k_mem)), by (first | exact stays_list (Fr.keep (by k_asm)) (by assumption) | exact ⟨_, got_news (by k_asm) (by k_mem), rfl, _, rfl⟩)⟩)); (case z9U => k_updF); (case z9hdp => ((try dsimp only [top]); omega)); (case z9hun => ((try dsimp only [top]); omega)); (case z9hx => first | k_ne | omega); (case z9hl => first | k_ne | omega); (case z9hi => l_ints); (case z9h4 => omega); k_whole; (k_dflt (rintro z9v' z9new' z9h' z9tk' z9F' z9N' z9hnew' z9st' z9hpost'; refine (let z9G' : Prop := _; (?_ : z9G')); obtain ⟨z9e', z9ho'⟩ := z9hpost')); subst z9e'; (k_dflt obtain ⟨z9l', z9vs', z9n', z9hm', z9hm2', z9hi', z9hne'⟩ := z9ho'); (replace z9N' := (z9hnew' _ z9hm2' z9hne').news (z9N' _ z9hm')); (have z9hne2' := (z9hnew' _ z9hm2' z9hne').ne); (try dsimp only [AllNe] at z9hne2'); (try dsimp only at z9N'); clear z9hnew' z9hm' z9hm2' z9st'; (try k_unmd); (try k_unfold); (try dsimp only); (try k_fold))))
  trivial


theorem is_tup_but {h h' : Heap} {adr : List Addr} {l : Addr} {items : Array Value} (g : GSub h h' adr) (x : IsTup h l items) (hl : l ∉ adr) : IsTup h' l items := let ⟨o, ho, r⟩ := x; ⟨o, g l o ho hl, r⟩
theorem tup_base {h₀ h : Heap} {L a : Addr} {m : Str → Option Value} {items : Array Value} (F : Fr h₀ L h m) (x : IsTup h₀ a items) : IsTup h a items := x.keeps F.keep
theorem sub_tup_self : isSubtype (.type "tuple") (.type "tuple") = pure true := by rw [isSubtype_type]; kernel_rfl
theorem type_tup : typeOf (.type "tuple") = pure (.type "type") := by kernel_rfl

theorem word20 : True := by
  (k_with "w:call builtin:isinstance" => row_timed "z" ((k_here; (with_reducible show wpAny _ _ (call (Value.builtin "isinstance") [Value.ref _, Value.type "tuple"]) _ _ _); refine call_isinstance_yes (IsTup.typeIs (tup_base (by k_asm) (by assumption))) type_tup sub_tup_self ?_)))
  trivial

theorem len_tup {prog : Program} {w : World} {A : Around} {E : Value → Shared → Prop} {s : Shared} {t : Addr} {items : List Value} {n : Int} {Q : Value → Shared → Prop} (hl : IsTup s.heap t items.toArray) (hn : (items.length : Int) = n) (hf : n < 2 ^ 63) (h : Q (.int n (s.toks + 1)) { s with toks := s.toks + 1 + 1 }) :
    wpAny (model prog w) A (call (.builtin "len") [.ref t]) Q E s := by
  subst hn
  exact PyProof.Rows.len_tuple hl (by simpa using hf) (by simpa using h)

theorem word21 : True := by
  (k_with "w:call builtin:len" => row_timed "z" ((k_here; (with_reducible show wpAny _ _ (call (Value.builtin "len") [Value.ref _]) _ _ _); (k_dflt (refine' len_tup ?z9l ?z9n ?z9f ?_)); (case z9l => k_dflt (exact tup_base (by k_asm) (by assumption))); (case z9n => k_dflt first | exact (rfl : ((_ : Nat) : Int) = 1) | exact (rfl : ((_ : Nat) : Int) = 2) | exact (rfl : ((_ : Nat) : Int) = 3)); (case z9f => k_dflt decide); k_whole)))
  trivial

theorem word22 : True := by
  (k_with "w:subscriptTail Name Constant ref int" => row_timed "z" ((k_here; (with_reducible show wpAny _ _ (subscriptTail _ _ (Value.ref _) (Value.int _ _)) _ _ _); (with_unfolding_all refine' item_tupleT ?z9a ?z9b ?z9c ?z9d ?z9e ?_; (case z9a => exact tup_base (by k_asm) (by assumption)); (case z9b => decide); (case z9c => decide); (case z9d => exact rfl); (case z9e => exact rfl); k_whole))))
  trivial


noncomputable def strIs (x : Str) (y : Value) : Bool := match y with | .str a _ => a.cps.toList == x.cps.toList | _ => false
noncomputable def allStr (items : List Value) : Bool := items.all fun y => match y with | .str _ _ => true | _ => false
theorem strIs_at {A : Around} {s : Shared} {items : List Value} (h : allStr items = true) (x : Str) (t : Tok) : ∀ y, y ∈ items.toArray → SeqAt.EqAt A s y (.str x t) (strIs x y) := by
  intro y hy
  have h1 := List.all_eq_true.mp h y (by simpa using hy)
  cases y <;> simp only [Bool.false_eq_true] at h1
  exact (SeqRoads2.EqGives.str _ x _ t).at A s
theorem in_strs {prog : Program} {w : World} {A : Around} {E : Value → Shared → Prop} {s : Shared} {l : Addr} {items : List Value} {x : Str} {t : Tok} {b : Bool} {Q : Value → Shared → Prop} (hl : IsTup s.heap l items.toArray) (hs : allStr items = true) (hb : items.any (strIs x) = b) (h : Q (.bool b) s) :
    wpAny (model prog w) A (compareOp .In (.str x t) (.ref l)) Q E s := SeqAt.in_tupleAt (strIs x) hl (strIs_at hs x t) (by rw [List.any_toArray, hb]; exact h)
theorem notin_strs {prog : Program} {w : World} {A : Around} {E : Value → Shared → Prop} {s : Shared} {l : Addr} {items : List Value} {x : Str} {t : Tok} {b : Bool} {Q : Value → Shared → Prop} (hl : IsTup s.heap l items.toArray) (hs : allStr items = true) (hb : items.any (strIs x) = b) (h : Q (.bool (!b)) s) :
    wpAny (model prog w) A (compareOp .NotIn (.str x t) (.ref l)) Q E s := SeqAt.notIn_tupleAt (strIs x) hl (strIs_at hs x t) (by rw [List.any_toArray, hb]; exact h)
theorem tup_news {h₀ h : Heap} {L a : Addr} {news : List (Addr × Obj)} {items : List Value} {n : Nat} (N : News h₀ L h news) (e : (a, ({ cls := .type "tuple", data := .seq items.toArray n } : Obj)) ∈ news) : IsTup h a items.toArray := ⟨_, (N _ e).1, rfl, n, rfl⟩

theorem word23 : True := by
  (k_with "w:compareOp NotIn str ref" => row_timed "z" ((k_here; (with_reducible show wpAny _ _ (compareOp CmpOp.NotIn (Value.str _ _) (Value.ref _)) _ _ _); first | ((k_dflt (refine' notin_strs (b := true) ?z9l ?z9s ?z9b ?_)); (case z9l => first | exact tup_news (by k_asm) (by k_mem) | exact tupK (by k_in) (by k_dflt k_is)); (case z9s => decide +kernel); (case z9b => decide +kernel); k_whole; (simp only [Bool.not_true])) | ((k_dflt (refine' notin_strs (b := false) ?z9l ?z9s ?z9b ?_)); (case z9l => first | exact tup_news (by k_asm) (by k_mem) | exact tupK (by k_in) (by k_dflt k_is)); (case z9s => decide +kernel); (case z9b => decide +kernel); k_whole; (simp only [Bool.not_false])))))
  trivial

theorem word24 : True := by
  (k_with "w:compareOp In str ref" => row_timed "z" ((k_here; (with_reducible show wpAny _ _ (compareOp CmpOp.In (Value.str _ _) (Value.ref _)) _ _ _); first
  | ((k_dflt (refine' in_strs (b := true) ?z9l ?z9s ?z9b ?_)); (case z9l => first | exact tup_news (by k_asm) (by k_mem) | exact tupK (by k_in) (by k_dflt k_is)); (case z9s => decide +kernel); (case z9b => decide +kernel); k_whole)
  | ((k_dflt (refine' in_strs (b := false) ?z9l ?z9s ?z9b ?_)); (case z9l => first | exact tup_news (by k_asm) (by k_mem) | exact tupK (by k_in) (by k_dflt k_is)); (case z9s => decide +kernel); (case z9b => decide +kernel); k_whole))))
  trivial

set_option maxHeartbeats 8000000 in
theorem whole_does (w : World) (i : Int) (ti : Tok) (wd : Value) :
    Does w 196 [.int i ti, wd] 1 [] (fun _ => True) (fun v _ _ => v = .none) := by
  refine' does_of [(Str.ofString "number", .int i ti), (Str.ofString "word", wd)] ?ho ?hcd ?hbind ?hloc ?c2 ?c3 ?c4 ?c5 ?cP ?body
  case ho => k_is
  case hcd => k_is
  case hbind => exact fun _ _ => BindsTo.of_eq rfl
  case hloc => exact locs rfl
  case c2 => exact rfl
  case c3 => exact rfl
  case c4 => exact rfl
  case c5 => decide
  case cP => exact fun _ _ _ h => h
  case body =>
    intro mg mb p loose mean base env outer dp un gd s g' L' h' tk0 cx hdp hun hp B' X' T' G' F' N'
    k_fold
    k_steps
    all_goals (try dsimp only)
    all_goals (try k_unfold)
    all_goals (refine leaf_next (by assumption) (by assumption) rfl)

theorem word25 : True := by
  (k_with "w:call ref" => row_timed "z" ((k_here; (with_reducible show wpAny _ _ (call (Value.ref 196) _) _ _ _); (k_dflt (refine' does_use0 (whole_does _ _ _ _) ?z9cx ?z9F ?z9N ?z9hp ?z9hdp ?z9hun ?_)); (case z9cx => k_dflt k_asm); (case z9F => k_dflt k_asm); (case z9N => k_dflt k_asm); (case z9hp => k_dflt (exact trivial)); (case z9hdp => ((try dsimp only [top]); omega)); (case z9hun => ((try dsimp only [top]); omega));  k_whole; (k_dflt rintro z9v' z9new' z9h' z9tk' z9F' z9N' z9hnew' z9st' z9e'); subst z9e'; clear z9hnew' z9st'; (try k_unmd); (try k_unfold); (try dsimp only); (try k_fold))))
  trivial

set_option maxHeartbeats 8000000 in
theorem number_does (w : World) (i a b : Int) (ti ta tb : Tok) (wd : Value) (h1 : a ≤ i) (h2 : i ≤ b) :
    Does w 203 [.int i ti, .int a ta, .int b tb, wd] 2 [] (fun _ => True) (fun v _ _ => v = .none) := by
  refine' does_of [(Str.ofString "number", .int i ti), (Str.ofString "least", .int a ta), (Str.ofString "most", .int b tb), (Str.ofString "word", wd)] ?ho ?hcd ?hbind ?hloc ?c2 ?c3 ?c4 ?c5 ?cP ?body
  case ho => k_is
  case hcd => k_is
  case hbind => exact fun _ _ => BindsTo.of_eq rfl
  case hloc => exact locs rfl
  case c2 => exact rfl
  case c3 => exact rfl
  case c4 => exact rfl
  case c5 => decide
  case cP => exact fun _ _ _ h => h
  case body =>
    intro mg mb p loose mean base env outer dp un gd s g' L' h' tk0 cx hdp hun hp B' X' T' G' F' N'
    k_fold
    k_steps
    all_goals (try dsimp only)
    all_goals (try k_unfold)
    all_goals (first | refine leaf_next (by assumption) (by assumption) rfl | (exfalso; omega))

theorem word26 : True := by
  (k_with "w:call ref" => row_timed "z" ((k_here; (with_reducible show wpAny _ _ (call (Value.ref 203) _) _ _ _); (k_dflt (refine' does_use0 (number_does _ _ _ _ _ _ _ _ ?z9h1 ?z9h2) ?z9cx ?z9F ?z9N ?z9hp ?z9hdp ?z9hun ?_)); (case z9cx => k_dflt k_asm); (case z9F => k_dflt k_asm); (case z9N => k_dflt k_asm); (case z9hp => k_dflt (exact trivial)); (case z9hdp => ((try dsimp only [top]); omega)); (case z9hun => ((try dsimp only [top]); omega)); (case z9h1 => omega); (case z9h2 => omega); k_whole; (k_dflt rintro z9v' z9new' z9h' z9tk' z9F' z9N' z9hnew' z9st' z9e'); subst z9e'; clear z9hnew' z9st'; (try k_unmd); (try k_unfold); (try dsimp only); (try k_fold))))
  trivial

set_option maxHeartbeats 8000000 in
theorem slit_does (w : World) (st : Addr) (t1 : Tok) :
    Does w 210 [.ref st] 2 [] (fun h => IsTup h st [Value.str (Str.ofString "lit") t1].toArray) (fun v _ _ => ∃ t, v = .int 1 t) := by
  refine' does_of [(Str.ofString "step", .ref st)] ?ho ?hcd ?hbind ?hloc ?c2 ?c3 ?c4 ?c5 ?cP ?body
  case ho => k_is
  case hcd => k_is
  case hbind => exact fun _ _ => BindsTo.of_eq rfl
  case hloc => exact locs rfl
  case c2 => exact rfl
  case c3 => exact rfl
  case c4 => exact rfl
  case c5 => decide
  case cP => exact fun _ _ g h => is_tup_but g h (by simp)
  case body =>
    intro mg mb p loose mean base env outer dp un gd s g' L' h' tk0 cx hdp hun hp B' X' T' G' F' N'
    k_fold
    k_steps
    all_goals (try dsimp only)
    all_goals (try k_unfold)
    all_goals (refine leaf_ret (by assumption) (by assumption) ?_)
    all_goals (exact ⟨_, rfl⟩)

set_option maxHeartbeats 8000000 in
theorem srep_does (w : World) (st : Addr) (t1 t2 t3 : Tok) (i len : Int) (hl : 2 ≤ len) (hl2 : len ≤ 273) :
    Does w 210 [.ref st] 3 [] (fun h => IsTup h st [Value.str (Str.ofString "rep") t1, .int i t2, .int len t3].toArray) (fun v _ _ => ∃ t, v = .int len t) := by
  refine' does_of [(Str.ofString "step", .ref st)] ?ho ?hcd ?hbind ?hloc ?c2 ?c3 ?c4 ?c5 ?cP ?body
  case ho => k_is
  case hcd => k_is
  case hbind => exact fun _ _ => BindsTo.of_eq rfl
  case hloc => exact locs rfl
  case c2 => exact rfl
  case c3 => exact rfl
  case c4 => exact rfl
  case c5 => decide
  case cP => exact fun _ _ g h => is_tup_but g h (by simp)
  case body =>
    intro mg mb p loose mean base env outer dp un gd s g' L' h' tk0 cx hdp hun hp B' X' T' G' F' N'
    k_fold
    k_steps
    all_goals (try dsimp only)
    all_goals (try k_unfold)
    all_goals (refine leaf_ret (by assumption) (by assumption) ?_)
    all_goals (exact ⟨_, rfl⟩)

set_option maxHeartbeats 8000000 in
theorem smat_does (w : World) (st : Addr) (t1 t2 t3 : Tok) (i len : Int) (hl : 2 ≤ len) (hl2 : len ≤ 273) :
    Does w 210 [.ref st] 3 [] (fun h => IsTup h st [Value.str (Str.ofString "match") t1, .int i t2, .int len t3].toArray) (fun v _ _ => ∃ t, v = .int len t) := by
  refine' does_of [(Str.ofString "step", .ref st)] ?ho ?hcd ?hbind ?hloc ?c2 ?c3 ?c4 ?c5 ?cP ?body
  case ho => k_is
  case hcd => k_is
  case hbind => exact fun _ _ => BindsTo.of_eq rfl
  case hloc => exact locs rfl
  case c2 => exact rfl
  case c3 => exact rfl
  case c4 => exact rfl
  case c5 => decide
  case cP => exact fun _ _ g h => is_tup_but g h (by simp)
  case body =>
    intro mg mb p loose mean base env outer dp un gd s g' L' h' tk0 cx hdp hun hp B' X' T' G' F' N'
    k_fold
    k_steps
    all_goals (try dsimp only)
    all_goals (try k_unfold)
    all_goals (refine leaf_ret (by assumption) (by assumption) ?_)
    all_goals (exact ⟨_, rfl⟩)

theorem word27 : True := by
  (k_with "w:call ref" => row_timed "z" ((k_here; (with_reducible show wpAny _ _ (call (Value.ref 210) _) _ _ _); (k_dflt (refine' does_use0 (srep_does _ _ _ _ _ _ _ ?z9h1 ?z9h2) ?z9cx ?z9F ?z9N ?z9hp ?z9hdp ?z9hun ?_)); (case z9cx => k_dflt k_asm); (case z9F => k_dflt k_asm); (case z9N => k_dflt k_asm); (case z9hp => k_dflt (exact tup_base (by k_asm) (by assumption))); (case z9hdp => ((try dsimp only [top]); omega)); (case z9hun => ((try dsimp only [top]); omega)); (case z9h1 => omega); (case z9h2 => omega); k_whole; (k_dflt (rintro z9v' z9new' z9h' z9tk' z9F' z9N' z9hnew' z9st' z9hpost'; refine (let z9G' : Prop := _; (?_ : z9G')); obtain ⟨z9t', z9e'⟩ := z9hpost')); subst z9e'; clear z9hnew' z9st'; (try k_unmd); (try k_unfold); (try dsimp only); (try k_fold))))
  trivial

theorem word28 : True := by
  (k_with "w:call ref" => row_timed "z" ((k_here; (with_reducible show wpAny _ _ (call (Value.ref 210) _) _ _ _); (k_dflt (refine' does_use0 (smat_does _ _ _ _ _ _ _ ?z9h1 ?z9h2) ?z9cx ?z9F ?z9N ?z9hp ?z9hdp ?z9hun ?_)); (case z9cx => k_dflt k_asm); (case z9F => k_dflt k_asm); (case z9N => k_dflt k_asm); (case z9hp => k_dflt (exact tup_base (by k_asm) (by assumption))); (case z9hdp => ((try dsimp only [top]); omega)); (case z9hun => ((try dsimp only [top]); omega)); (case z9h1 => omega); (case z9h2 => omega); k_whole; (k_dflt (rintro z9v' z9new' z9h' z9tk' z9F' z9N' z9hnew' z9st' z9hpost'; refine (let z9G' : Prop := _; (?_ : z9G')); obtain ⟨z9t', z9e'⟩ := z9hpost')); subst z9e'; clear z9hnew' z9st'; (try k_unmd); (try k_unfold); (try dsimp only); (try k_fold))))
  trivial

theorem word29 : True := by
  (k_with "w:call ref" => row_timed "z" ((k_here; (with_reducible show wpAny _ _ (call (Value.ref 210) _) _ _ _); (k_dflt (refine' does_use0 (slit_does _ _ _) ?z9cx ?z9F ?z9N ?z9hp ?z9hdp ?z9hun ?_)); (case z9cx => k_dflt k_asm); (case z9F => k_dflt k_asm); (case z9N => k_dflt k_asm); (case z9hp => k_dflt (exact tup_base (by k_asm) (by assumption))); (case z9hdp => ((try dsimp only [top]); omega)); (case z9hun => ((try dsimp only [top]); omega));  k_whole; (k_dflt (rintro z9v' z9new' z9h' z9tk' z9F' z9N' z9hnew' z9st' z9hpost'; refine (let z9G' : Prop := _; (?_ : z9G')); obtain ⟨z9t', z9e'⟩ := z9hpost')); subst z9e'; clear z9hnew' z9st'; (try k_unmd); (try k_unfold); (try dsimp only); (try k_fold))))
  trivial

set_option maxHeartbeats 8000000 in
theorem dlit_does (w : World) (st : Addr) (t1 : Tok) (rv : Value) :
    Does w 218 [.ref st, rv] 3 [] (fun h => IsTup h st [Value.str (Str.ofString "lit") t1].toArray) (fun v _ _ => ∃ t, v = .int 0 t) := by
  refine' does_of [(Str.ofString "step", .ref st), (Str.ofString "reps", rv)] ?ho ?hcd ?hbind ?hloc ?c2 ?c3 ?c4 ?c5 ?cP ?body
  case ho => k_is
  case hcd => k_is
  case hbind => exact fun _ _ => BindsTo.of_eq rfl
  case hloc => exact locs rfl
  case c2 => exact rfl
  case c3 => exact rfl
  case c4 => exact rfl
  case c5 => decide
  case cP => exact fun _ _ g h => is_tup_but g h (by simp)
  case body =>
    intro mg mb p loose mean base env outer dp un gd s g' L' h' tk0 cx hdp hun hp B' X' T' G' F' N'
    k_fold
    k_steps
    all_goals (try dsimp only)
    all_goals (try k_unfold)
    all_goals (refine leaf_ret (by assumption) (by assumption) ?_)
    all_goals (exact ⟨_, rfl⟩)

set_option maxHeartbeats 8000000 in
theorem dmat_does (w : World) (x dx l : Addr) (h1 : Int) (k1 : Tok) (vs : List Value) (ns : List Int) (st : Addr) (t1 t2 t3 : Tok) (i len : Int) (hl1 : 2 ≤ len) (hl2 : len ≤ 273) (hx : x ≠ dx) (hl : l ≠ dx) (hs : st ≠ dx) (hi : IntsAre vs ns) (h4 : ns.length ≤ 4) :
    Does w 218 [.ref st, .ref x] 4 [(dx, dictOf [⟨h1, .str "row" k1, .ref l⟩] 1)] (fun h => (h.get? x = some (instObj 184 dx) ∧ h.IsList l vs.toArray) ∧ IsTup h st [Value.str (Str.ofString "match") t1, .int i t2, .int len t3].toArray) (fun v news _ => ∃ t, v = .int i t ∧ RepIs dx h1 k1 (i :: ns.take 3) news) := by
  refine' does_of [(Str.ofString "step", .ref st), (Str.ofString "reps", .ref x)] ?ho ?hcd ?hbind ?hloc ?c2 ?c3 ?c4 ?c5 ?cP ?body
  case ho => k_is
  case hcd => k_is
  case hbind => exact fun _ _ => BindsTo.of_eq rfl
  case hloc => exact locs rfl
  case c2 => exact rfl
  case c3 => exact rfl
  case c4 => exact rfl
  case c5 => decide
  case cP => exact fun _ _ g h => ⟨⟨g _ _ h.1.1 (by simp [hx]), is_list_but g h.1.2 (by simp [hl])⟩, is_tup_but g h.2 (by simp [hs])⟩
  case body =>
    intro mg mb p loose mean base env outer dp un gd s g' L' h' tk0 cx hdp hun hp B' X' T' G' F' N'
    obtain ⟨⟨hpx, hpl⟩, hpt⟩ := hp
    try k_unmd
    k_fold
    k_steps
    all_goals (try dsimp only)
    all_goals (try k_unfold)
    all_goals (refine leaf_ret (by assumption) (by assumption) ?_)
    all_goals (refine' ⟨_, rfl, rep_is ?a ?b ?c ?d ?e⟩)
    case a => k_mem
    case b => k_mem
    case c => assumption
    case d => rfl
    case e => (refine neN ?_; omega)

set_option maxHeartbeats 8000000 in
theorem drep_does (w : World) (x dx l : Addr) (h1 : Int) (k1 : Tok) (vs : List Value) (ns : List Int) (st : Addr) (t1 t2 t3 : Tok) (i len : Int) (hl1 : 2 ≤ len) (hl2 : len ≤ 273) (hx : x ≠ dx) (hl : l ≠ dx) (hs : st ≠ dx) (hi : IntsAre vs ns) (h0 : 0 ≤ i) (h1i : i < ns.length) (h4 : ns.length ≤ 4) :
    Does w 218 [.ref st, .ref x] 4 [(dx, dictOf [⟨h1, .str "row" k1, .ref l⟩] 1)] (fun h => (h.get? x = some (instObj 184 dx) ∧ h.IsList l vs.toArray) ∧ IsTup h st [Value.str (Str.ofString "rep") t1, .int i t2, .int len t3].toArray) (fun v news _ => ∃ t, v = .int (ns.getD i.toNat 0) t ∧ RepIs dx h1 k1 (ns.getD i.toNat 0 :: (ns.take i.toNat ++ ns.drop (i.toNat + 1))) news) := by
  refine' does_of [(Str.ofString "step", .ref st), (Str.ofString "reps", .ref x)] ?ho ?hcd ?hbind ?hloc ?c2 ?c3 ?c4 ?c5 ?cP ?body
  case ho => k_is
  case hcd => k_is
  case hbind => exact fun _ _ => BindsTo.of_eq rfl
  case hloc => exact locs rfl
  case c2 => exact rfl
  case c3 => exact rfl
  case c4 => exact rfl
  case c5 => decide
  case cP => exact fun _ _ g h => ⟨⟨g _ _ h.1.1 (by simp [hx]), is_list_but g h.1.2 (by simp [hl])⟩, is_tup_but g h.2 (by simp [hs])⟩
  case body =>
    intro mg mb p loose mean base env outer dp un gd s g' L' h' tk0 cx hdp hun hp B' X' T' G' F' N'
    obtain ⟨⟨hpx, hpl⟩, hpt⟩ := hp
    try k_unmd
    k_fold
    k_steps
    all_goals (try dsimp only)
    all_goals (try k_unfold)
    all_goals (refine leaf_ret (by assumption) (by assumption) ?_)
    all_goals (refine' ⟨_, rfl, rep_is ?a ?b ?c ?d ?e⟩)
    case a => k_mem
    case b => k_mem
    case c => assumption
    case d => rfl
    case e => (refine neN ?_; omega)

section
variable {prog : Program} {w : World} {A : Around} {E : Value → Shared → Prop} {s : Shared} {env : Env} {h₀ : Heap}

/-- a source of turns: the next item, and what the letting go of an owned tuple leaves -/
structure Src (prog : Program) (w : World) (A : Around) (I : Addr) (target : Expr) (fp wr : List Addr) (n : Nat) (Pv : Nat → Heap → Value → Prop) (St : Nat → Heap → Prop) : Prop where
  sub : ∀ b ∈ wr, b ∈ fp
  frame : ∀ i h h', St i h → (∀ b ∈ fp, ∀ o, h.get? b = some o → h'.get? b = some o) → St i h'
  live : ∀ i h, St i h → ∀ b ∈ wr, ∃ o, h.get? b = some o
  item : ∀ i (s : Shared) (Q : Value → Shared → Prop) (E : Value → Shared → Prop), i < n → St i s.heap →
    (∀ v h' tk, Pv i h' v → St (i + 1) h' → (∀ b o, b ∉ wr → s.heap.get? b = some o → h'.get? b = some o) → Q v { s with heap := h', toks := tk }) →
    wpAny (model prog w) A (pyNext (.ref I)) (fun r s₁ => match r with | none => False | some v => wpAny (model prog w) A (letOwnedTupleGo target (.ref I) v) (fun _ s₂ => Q v s₂) E s₁) E s
  done : ∀ (s : Shared) (Q : Option Value → Shared → Prop) (E : Value → Shared → Prop), St n s.heap →
    (∀ h' tk, (∀ b o, b ∉ wr → s.heap.get? b = some o → h'.get? b = some o) → Q none { s with heap := h', toks := tk }) → wpAny (model prog w) A (pyNext (.ref I)) Q E s
  self : ∀ i (s : Shared) (Q : Value → Shared → Prop) (E : Value → Shared → Prop), St i s.heap → Q (.ref I) s → wpAny (model prog w) A (pyIter (.ref I)) Q E s

theorem Src.ofWalks {I : Addr} {fp wr : List Addr} {n : Nat} {P : Nat → Value → Prop} {St : Nat → Heap → Prop} {target : Expr} (W : Walks prog w A I fp wr n P St)
    (hgo : ∀ i (s' : Shared) v (Q : Unit → Shared → Prop) (E : Value → Shared → Prop), St i s'.heap → Q () s' → wpAny (model prog w) A (letOwnedTupleGo target (.ref I) v) Q E s')
    (hlive : ∀ i h, St i h → ∀ b ∈ wr, ∃ o, h.get? b = some o) : Src prog w A I target fp wr n (fun i _ v => P i v) St where
  sub := W.sub
  frame := W.frame
  live := hlive
  item := fun i s Q E hi st hQ => W.item i s _ E hi st fun v h' tk hP st' hk => hgo (i + 1) _ v _ _ st' (hQ v h' tk hP st' hk)
  done := W.done
  self := W.self

theorem Src.ofWalksT {I : Addr} {fp wr : List Addr} {n : Nat} {Pt : Nat → Array Value → Prop} {St : Nat → Heap → Prop} {Mid : Nat → Addr → Heap → Prop} {elts : List Expr} {k : Nat} {pos : Pos} (W : WalksT prog w A I fp wr n Pt St Mid)
    (hlive : ∀ i h, St i h → ∀ b ∈ wr, ∃ o, h.get? b = some o) : Src prog w A I (.Tuple elts k pos) fp wr n (fun i h v => ∃ T vals, v = .ref T ∧ Pt i vals ∧ h.IsTuple T vals) St where
  sub := W.sub
  frame := W.frame
  live := hlive
  item := fun i s Q E hi st hQ => W.item i s _ E hi st fun T vals h' tk hP _ hT hm hk => W.go elts k pos i T _ _ E hm fun h'' st'' hk'' =>
    hQ (.ref T) h'' tk ⟨T, vals, rfl, hP, let ⟨o, ho, r⟩ := hT; ⟨o, hk'' T o (W.apart _ _ _ hm) ho, r⟩⟩ st'' fun b o hb e => hk'' b o hb (hk b o hb e)
  done := W.done
  self := W.self

noncomputable def SrcTurn (h₀ : Heap) (L : Addr) (J : (Str → Option Value) → List (Addr × Obj) → Prop) (own : List (Addr × Obj)) (s₁ : Shared) (f : Flow) (s₂ : Shared) : Prop :=
  (f = .next ∨ f = .cont) ∧ InvEndG h₀ L J own s₁ s₂
theorem src_next {L : Addr} {J : (Str → Option Value) → List (Addr × Obj) → Prop} {m' : Str → Option Value} {own news' nx : List (Addr × Obj)} {s₁ : Shared} {h' : Heap} {tk : Nat} (F : Fr h₀ L h' m') (N : News h₀ L h' news')
    (hj : J m' nx) (ha : OwnOff own (nx.map (·.1))) (hn : ∀ p ∈ nx, p ∈ news') (ho : ∀ p ∈ own, p ∈ news') : SrcTurn h₀ L J own s₁ .next { s₁ with heap := h', toks := tk } := ⟨.inl rfl, InvEndG.intro F N hj ha hn ho⟩
theorem src_cont {L : Addr} {J : (Str → Option Value) → List (Addr × Obj) → Prop} {m' : Str → Option Value} {own news' nx : List (Addr × Obj)} {s₁ : Shared} {h' : Heap} {tk : Nat} (F : Fr h₀ L h' m') (N : News h₀ L h' news')
    (hj : J m' nx) (ha : OwnOff own (nx.map (·.1))) (hn : ∀ p ∈ nx, p ∈ news') (ho : ∀ p ∈ own, p ∈ news') : SrcTurn h₀ L J own s₁ .cont { s₁ with heap := h', toks := tk } := ⟨.inr rfl, InvEndG.intro F N hj ha hn ho⟩

/-- a loop over a source, by an invariant over the frame's map and the ledger -/
noncomputable def LoopS (prog : Program) (w : World) (A : Around) (h₀ : Heap) (env : Env) (target : Expr) (body : List Stmt) (Q : Flow → Shared → Prop) (it : Value) (s₂ : Shared) : Prop :=
  ∃ (I : Addr) (fp wr : List Addr) (n : Nat) (Pv : Nat → Heap → Value → Prop) (St : Nat → Heap → Prop) (m : Str → Option Value) (nx₀ : List (Addr × Obj)) (J : Nat → (Str → Option Value) → List (Addr × Obj) → Prop),
    it = .ref I ∧ Src prog w A I target fp wr n Pv St ∧ env.locals ∉ fp ∧ (∀ b ∈ wr, h₀.get? b = none) ∧ (∀ p ∈ nx₀, p.1 ∉ wr) ∧
    (∀ b ∈ fp, b ∈ wr ∨ (∃ o, h₀.get? b = some o) ∨ ∃ o, ∀ i m nx, J i m nx → (b, o) ∈ nx) ∧
    St 0 s₂.heap ∧ Fr h₀ env.locals s₂.heap m ∧ News h₀ env.locals s₂.heap nx₀ ∧ J 0 m nx₀ ∧
    (∀ i v m₁ nx h tk own, i < n → Pv i h v → OwnOff own (nx.map (·.1)) → J i m₁ nx → Fr h₀ env.locals h m₁ → News h₀ env.locals h (nx ++ own) →
      wpAny (model prog w) A (assign target env v) (fun _ s₃ => wpAny (model prog w) A (execs body env) (SrcTurn h₀ env.locals (J (i + 1)) own { s₂ with heap := h, toks := tk }) (fun _ _ => False) s₃) (fun _ _ => False) { s₂ with heap := h, toks := tk }) ∧
    ∀ h' tk m' nx, J n m' nx → Fr h₀ env.locals h' m' → News h₀ env.locals h' nx → Q .next { s₂ with heap := h', toks := tk }

theorem own_fr {h h' : Heap} {L : Addr} {m : Str → Option Value} {nx : List (Addr × Obj)} {wr : List Addr} (F : Fr h₀ L h m) (N : News h₀ L h nx) (hL : L ∉ wr) (hwr : ∀ b ∈ wr, h₀.get? b = none) (hnx : ∀ p ∈ nx, p.1 ∉ wr)
    (hk : ∀ b o, b ∉ wr → h.get? b = some o → h'.get? b = some o) : Fr h₀ L h' m ∧ News h₀ L h' nx := by
  refine ⟨⟨F.ns.at' fun o e => hk _ o hL e, fun b o e => hk b o (fun hb => ?_) (F.keep b o e), F.above⟩, fun p hp => ⟨hk _ _ (hnx p hp) (N p hp).1, (N p hp).2⟩⟩
  rw [hwr b hb] at e; cases e

theorem for_src {Q : Flow → Shared → Prop} {target iter : Expr} {body : List Stmt} {pos : Pos}
    (h : wpAny (model prog w) A (eval iter env) (fun xv s₁ => wpAny (model prog w) A (pyIter xv) (fun it s₂ => LoopS prog w A h₀ env target body Q it s₂) E s₁) E s)
    (hs : ∀ x, foldedSetIterable iter env x = pure x) : wpAny (model prog w) A (exec (.For target iter body [] pos) env) Q E s := by
  refine wpAny_For (wpAny_mono h (fun xv s₁ h₁ => wpAny_mono h₁ (fun it s₂ h₂ => ?_) fun _ _ e => e) fun _ _ e => e) hs
  obtain ⟨I, fp, wr, n, Pv, St, m, nx₀, J, rfl, W, hLf, hwr, hnw, hfp, hst, F, N, h0, turn, done⟩ := h₂
  have hLw : env.locals ∉ wr := fun q => hLf (W.sub _ q)
  refine codeAny_forLoop_any (fun k s' => ∃ h' tk m' nx i, s' = { s₂ with heap := h', toks := tk } ∧ St i h' ∧ Fr h₀ env.locals h' m' ∧ News h₀ env.locals h' nx ∧ (∀ p ∈ nx, p.1 ∉ wr) ∧ J i m' nx ∧ i ≤ n ∧ k = n + 1 - i) ?_ (n + 1)
    ⟨s₂.heap, s₂.toks, m, nx₀, 0, rfl, hst, F, N, hnw, h0, Nat.zero_le _, rfl⟩
  rintro k s' ⟨h', tk, m', nx, i, rfl, hst', F', N', hnw', hJ, hi, rfl⟩
  by_cases hlt : i < n
  · refine' wpAny_mono (W.item i _ _ _ hlt hst' (fun v h₁ tk₁ hP hst₁ hk₁ => ?tt)) (fun r s₁ h₁ => ?mm) fun _ _ e => e
    case mm =>
      cases r with
      | none => exact h₁.elim
      | some v => exact h₁
    obtain ⟨F₁, N₁⟩ := own_fr F' N' hLw hwr hnw' hk₁
    have Nown : News h₀ env.locals h₁ (ownOf h₀ wr h₁) := news_ownOf hLw
    have hoff : OwnOff (ownOf h₀ wr h₁) (nx.map (·.1)) := by
      intro p hp b hb e
      obtain ⟨q, hq, rfl⟩ := List.mem_map.mp hb
      exact hnw' q hq (e ▸ ownOf_sub p hp)
    have NN : News h₀ env.locals h₁ (nx ++ ownOf h₀ wr h₁) := fun p hp => (List.mem_append.mp hp).elim (N₁ p) (Nown p)
    refine wpAny_mono (turn i v m' nx h₁ tk₁ (ownOf h₀ wr h₁) hlt hP hoff hJ F₁ NN) (fun _ s₃ h₃ => wpAny_mono h₃ (fun f s₄ h₄ => ?_) fun _ _ x => x.elim) fun _ _ x => x.elim
    obtain ⟨hf, h₅, tk₅, m₅, news₅, nx₅, rfl, F₅, N₅, hn₅, ho₅, ha₅, hJ₅⟩ := h₄
    have hst₅ : St (i + 1) h₅ := by
      refine W.frame _ _ _ hst₁ fun b hb o e => ?_
      rcases hfp b hb with h6 | ⟨o₀, h6⟩ | ⟨o₀, h6⟩
      · exact (N₅ _ (ho₅ _ (mem_ownOf h6 (hwr b h6) e))).1
      · have e2 := F₁.keep b o₀ h6
        rw [e] at e2; cases e2
        exact F₅.keep b o h6
      · have e2 := (N₁ _ (h6 _ _ _ hJ)).1
        rw [e] at e2; cases e2
        exact (N₅ _ (hn₅ _ (h6 _ _ _ hJ₅))).1
    have hoff₅ : ∀ p ∈ nx₅, p.1 ∉ wr := fun p hp hq => by
      obtain ⟨o, ho⟩ := W.live _ _ hst₁ _ hq
      exact ha₅ _ (mem_ownOf hq (hwr _ hq) ho) p.1 (List.mem_map.mpr ⟨p, hp, rfl⟩) rfl
    have fin : ∃ m, m < n + 1 - i ∧ (∃ h' tk m' nx i, ({ s₂ with heap := h₅, toks := tk₅ } : Shared) = { s₂ with heap := h', toks := tk } ∧ St i h' ∧ Fr h₀ env.locals h' m' ∧ News h₀ env.locals h' nx ∧ (∀ p ∈ nx, p.1 ∉ wr) ∧ J i m' nx ∧ i ≤ n ∧ m = n + 1 - i) :=
      ⟨n + 1 - (i + 1), by omega, h₅, tk₅, m₅, nx₅, i + 1, rfl, hst₅, F₅, (fun p hp => N₅ p (hn₅ p hp)), hoff₅, hJ₅, hlt, rfl⟩
    rcases hf with rfl | rfl
    · exact fin
    · exact fin
  · have hin : i = n := by omega
    subst hin
    refine W.done _ _ _ hst' fun h₁ tk₁ hk₁ => wpAny_execs_nil ?_
    obtain ⟨F₁, N₁⟩ := own_fr F' N' hLw hwr hnw' hk₁
    exact done h₁ tk₁ m' nx hJ F₁ N₁
end

/-- the walk stops here -/

noncomputable def NsObj (o : Obj) (m : Str → Option Value) : Prop := ∃ es ep, o.data = .dict es ep ∧ StrKeys es ∧ ∀ name, nsFind es name = m name
theorem ns_of_obj {h : Heap} {C : Addr} {o : Obj} {m : Str → Option Value} (e : h.get? C = some o) (x : NsObj o m) : h.Ns C m := let ⟨es, ep, a, b, c⟩ := x; ⟨o, es, ep, e, a, b, c⟩
theorem ns_obj {h : Heap} {C : Addr} {m : Str → Option Value} (x : h.Ns C m) : ∃ o, h.get? C = some o ∧ NsObj o m := let ⟨o, es, ep, e, a, b, c⟩ := x; ⟨o, e, es, ep, a, b, c⟩

section
variable {prog : Program} {w : World} {A : Around} {E : Value → Shared → Prop} {s : Shared} {env : Env} {h₀ : Heap}

/-- what an element's making leaves -/
noncomputable def EltEnd (h₀ : Heap) (L : Addr) (m : Str → Option Value) (J : List Value → List (Addr × Obj) → Prop) (ys : List Value) (own : List (Addr × Obj)) (s₁ : Shared) (y : Value) (s₂ : Shared) : Prop :=
  ∃ h' tk' nx news', s₂ = { s₁ with heap := h', toks := tk' } ∧ Fr h₀ L h' m ∧ News h₀ L h' news' ∧ (∀ p ∈ nx, p ∈ news') ∧ (∀ p ∈ own, p ∈ news') ∧ OwnOff own (nx.map (·.1)) ∧ J (ys ++ [y]) nx
theorem elt_end {L : Addr} {m : Str → Option Value} {J : List Value → List (Addr × Obj) → Prop} {ys : List Value} {own news' nx : List (Addr × Obj)} {s₁ : Shared} {y : Value} {h' : Heap} {tk : Nat} (F : Fr h₀ L h' m) (N : News h₀ L h' news')
    (hj : J (ys ++ [y]) nx) (ha : OwnOff own (nx.map (·.1))) (hn : ∀ p ∈ nx, p ∈ news') (ho : ∀ p ∈ own, p ∈ news') : EltEnd h₀ L m J ys own s₁ y { s₁ with heap := h', toks := tk } := ⟨h', tk, nx, news', rfl, F, N, hn, ho, ha, hj⟩

/-- a comprehension over a source, by an invariant over what it has made and the ledger -/
noncomputable def CompS (prog : Program) (w : World) (A : Around) (h₀ : Heap) (L : Addr) (m : Str → Option Value) (md : Addr → Str → Option Value) (env : Env) (x : Str) (px : Pos) (elt : Expr) (scope : Scope) (cl : List (Str × Addr)) (Q : Addr → Shared → Prop) (it : Value) (s₂ : Shared) : Prop :=
  ∃ (I : Addr) (fp wr : List Addr) (n : Nat) (Pv : Nat → Value → Prop) (St : Nat → Heap → Prop) (nx₀ : List (Addr × Obj)) (J : Nat → List Value → List (Addr × Obj) → Prop),
    it = .ref I ∧ Src prog w A I (.Name x px) fp wr n (fun i _ v => Pv i v) St ∧ n ≤ sizeLine ∧ L ∉ fp ∧ (∀ b ∈ wr, h₀.get? b = none) ∧ (∀ b ∈ fp, b < s₂.heap.objs.size) ∧ (∀ p ∈ nx₀, p.1 ∉ wr) ∧
    (∀ b ∈ fp, b ∈ wr ∨ (∃ o, h₀.get? b = some o) ∨ ∃ o, ∀ i ys nx, J i ys nx → (b, o) ∈ nx) ∧
    St 0 s₂.heap ∧ Fr h₀ L s₂.heap m ∧ News h₀ L s₂.heap nx₀ ∧ J 0 [] nx₀ ∧
    (∀ i v ys nx h tk C D oC cnt own (mC : Str → Option Value), i < n → Pv i v → ys.length = i → OwnOff own (nx.map (·.1)) → OwnOff own [C, D] → C ≠ D → OwnOff nx [C, D] → J i ys nx → Fr h₀ L h m → News h₀ L h ((C, oC) :: (D, listOf ys.toArray cnt) :: (nx ++ own)) → NsObj oC (fun z => if z = x then some v else mC z) →
      wpAny (model prog w) A (eval elt (compEnvC scope cl C env)) (EltEnd h₀ L m (J (i + 1)) ys ((C, oC) :: (D, listOf ys.toArray cnt) :: own) { s₂ with heap := h, toks := tk }) (fun _ _ => False) { s₂ with heap := h, toks := tk }) ∧
    ∀ D ys cnt nx h' tk, Fr h₀ L h' (md D) → News h₀ L h' ((D, listOf ys.toArray cnt) :: nx) → OwnOff nx [D] → ys.length = n → J n ys nx → Q D { s₂ with heap := h', toks := tk }

theorem comp_turns {R : Result → Shared → Prop} {elt target iter : Expr} {scope : Scope} {pos : Pos} {it acc : Value} {env : Env} (I : Nat → Shared → Prop)
    (turn : ∀ n s, I n s → wpAny (model prog w) A (pyNext it) (fun r s₁ => match r with
      | none => R (.ok .next) s₁
      | some v => wpAny (model prog w) A (letOwnedTupleGo target it v) (fun _ s₁' => wpAny (model prog w) A (assign target env v) (fun _ s₂ => wpAny (model prog w) A (eval elt env) (fun x s₃ =>
          wpAny (model prog w) A (call (.builtin "list.append") [acc, x]) (fun _ s₄ => ∃ m, m < n ∧ I m s₄) (notedBy (model prog w) A env fun e s' => R (.error e) s') s₃)
          (notedBy (model prog w) A env fun e s' => R (.error e) s') s₂) (notedBy (model prog w) A env fun e s' => R (.error e) s') s₁') (notedBy (model prog w) A env fun e s' => R (.error e) s') s₁) (notedBy (model prog w) A env fun e s' => R (.error e) s') s)
    (n : Nat) (h : I n s) :
    codeAny (model prog w) A (.compLoop (.ListComp elt [⟨target, iter, [], 0⟩] scope pos) 0 it acc env) R s := by
  refine codeAny_loop rfl I (fun n s hI => ?_) n h
  show wpAny _ _ ((compTurn (.ListComp elt [⟨target, iter, [], 0⟩] scope pos) 0 it acc env).onRaise (fun x => do noteFrame x env; theTreesLotGoes x)) _ _ s
  refine wpAny_noted ?_
  rw [compTurn_list1]
  refine wpAny_bind (wpAny_standAt (wpAny_bind (wpAny_mono (turn n s hI) (fun r s₁ h₁ => ?_) fun _ _ h' => h')))
  cases r with
  | none => exact wpAny_pure h₁
  | some v =>
    refine wpAny_bind (wpAny_mono h₁ (fun _ s₁' h₁' => ?_) fun _ _ h' => h')
    exact wpAny_bind (wpAny_mono h₁' (fun _ s₂ h₂ => wpAny_bind (wpAny_bind (wpAny_mono h₂ (fun x s₃ h₃ => wpAny_bind (wpAny_mono h₃
      (fun _ s₄ h₄ => wpAny_pure (wpAny_pure ⟨rfl, h₄⟩)) fun _ _ h' => h')) fun _ _ h' => h'))) fun _ _ h' => h')

theorem comp_block {elt iter : Expr} {x : Str} {px : Pos} {scope : Scope} {cl : List (Str × Addr)} {pos : Pos} {s₂ : Shared} {I L : Addr} {m : Str → Option Value} {fp wr : List Addr} {n : Nat} {Pv : Nat → Value → Prop} {St : Nat → Heap → Prop}
    {nx₀ : List (Addr × Obj)} {J : Nat → List Value → List (Addr × Obj) → Prop} {RR : Value → Addr → Result → Shared → Prop}
    (hcell : ∀ y ∈ scope.names, y.2 ≠ .cell) (hkind : scope.kind = .function) (hx : scope.names.lookup x = some .local)
    (W : Src prog w A I (.Name x px) fp wr n (fun i _ v => Pv i v) St) (hsz : n ≤ sizeLine) (hLf : L ∉ fp) (hwr : ∀ b ∈ wr, h₀.get? b = none) (hfs : ∀ b ∈ fp, b < s₂.heap.objs.size) (hnw : ∀ p ∈ nx₀, p.1 ∉ wr)
    (hfp : ∀ b ∈ fp, b ∈ wr ∨ (∃ o, h₀.get? b = some o) ∨ ∃ o, ∀ i ys nx, J i ys nx → (b, o) ∈ nx)
    (hst : St 0 s₂.heap) (F : Fr h₀ L s₂.heap m) (N : News h₀ L s₂.heap nx₀) (h0 : J 0 [] nx₀)
    (turn : ∀ i v ys nx h tk C D oC cnt own (mC : Str → Option Value), i < n → Pv i v → ys.length = i → OwnOff own (nx.map (·.1)) → OwnOff own [C, D] → C ≠ D → OwnOff nx [C, D] → J i ys nx → Fr h₀ L h m → News h₀ L h ((C, oC) :: (D, listOf ys.toArray cnt) :: (nx ++ own)) → NsObj oC (fun z => if z = x then some v else mC z) →
      wpAny (model prog w) A (eval elt (compEnvC scope cl C env)) (EltEnd h₀ L m (J (i + 1)) ys ((C, oC) :: (D, listOf ys.toArray cnt) :: own) { s₂ with heap := h, toks := tk }) (fun _ _ => False) { s₂ with heap := h, toks := tk })
    (hRR : ∀ D C oC mC ys cnt nx h' tk, Fr h₀ L h' m → News h₀ L h' ((C, oC) :: (D, listOf ys.toArray cnt) :: nx) → NsObj oC mC → D ≠ C → OwnOff nx [C, D] → ys.length = n → J n ys nx → RR (.ref D) C (.ok .next) { s₂ with heap := h', toks := tk }) :
    wpAny (model prog w) A (newList []) (fun acc s₃ => wpAny (model prog w) A (newFunctionEnv scope env.globals cl [] env.qual none .none (some env)) (fun cenv s₄ =>
      codeAny (model prog w) A (.compStart (.ListComp elt [⟨.Name x px, iter, [], 0⟩] scope pos) 0 (.ref I) acc { cenv with scope := relabel scope env }) (RR acc cenv.locals) s₄) E s₃) E s₂ := by
  have hLw : L ∉ wr := fun q => hLf (W.sub _ q)
  refine wpAny_newObj_type (wpAny_newFunctionEnv hcell (by intro y hy; simp at hy) (fun h₁ hns₁ hsb₁ => ?_) hkind)
  dsimp only at hns₁ hsb₁ ⊢
  generalize hH2 : s₂.heap.push { cls := .type "list", dict := none, data := .seq ([] : List Value).toArray } = H2 at hns₁ hsb₁ ⊢
  have hC : H2.objs.size = s₂.heap.objs.size + 1 := by rw [← hH2, Heap.size_push]
  generalize hDv : s₂.heap.objs.size = D at hC
  generalize hCv : H2.objs.size = C at hns₁ hsb₁ hC ⊢
  have hDC : D ≠ C := by rw [hC]; exact Nat.ne_of_lt (Nat.lt_succ_self _)
  have below : ∀ b, b < D → b ≠ C ∧ b ≠ D := fun b hb => ⟨by rw [hC]; exact Nat.ne_of_lt (Nat.lt_succ_of_lt hb), Nat.ne_of_lt hb⟩
  have hfs' : ∀ b ∈ fp, b ≠ C ∧ b ≠ D := fun b hb => below b (hDv ▸ hfs b hb)
  have old : ∀ b o, s₂.heap.get? b = some o → h₁.get? b = some o := fun b o e => hsb₁.extBut b o (below b (hDv ▸ Heap.lt_size e)).1 (Heap.get?_push_of_some _ (hH2 ▸ Heap.get?_push_of_some _ e))
  have fresh : ∀ a, D ≤ a → s₂.heap.get? a = none := fun a ha => by
    cases e : s₂.heap.get? a with
    | none => rfl
    | some o' => exact absurd (Heap.lt_size e) (Nat.not_lt.mpr (hDv ▸ ha))
  have out : ∀ a, D ≤ a → a ≠ L ∧ h₀.get? a = none := fun a ha => by
    refine ⟨fun e => ?_, ?_⟩
    · obtain ⟨o, _, _, ho, _⟩ := F.ns
      rw [← e, fresh a ha] at ho; cases ho
    · cases e : h₀.get? a with
      | none => rfl
      | some o => have := F.keep a o e; rw [fresh a ha] at this; cases this
  have outD := out D (Nat.le_refl _)
  have outC := out C (by rw [hC]; exact Nat.le_succ _)
  have F₁ : Fr h₀ L h₁ m := ⟨F.ns.keeps old, fun b o e => old b o (F.keep b o e), F.above⟩
  obtain ⟨oC₀, hoC₀, nsC₀⟩ := ns_obj hns₁
  have hD₁ : h₁.get? D = some (listOf ([] : List Value).toArray 0) := hsb₁.extBut _ _ hDC (Heap.get?_push_of_some _ (hH2 ▸ hDv ▸ Heap.get?_push_size _ rfl))
  have N₁ : News h₀ L h₁ ((C, oC₀) :: (D, listOf ([] : List Value).toArray 0) :: nx₀) := by
    intro p hp
    rcases List.mem_cons.mp hp with rfl | hp
    · exact ⟨hoC₀, outC⟩
    · rcases List.mem_cons.mp hp with rfl | hp
      · exact ⟨hD₁, outD⟩
      · exact ⟨old _ _ (N p hp).1, (N p hp).2⟩
  have hst₁ : St 0 h₁ := W.frame _ _ _ hst fun b _ o e => old b o e
  have hnx₀ : OwnOff nx₀ [C, D] := fun p hp b hb e => by
    have h1 := below p.1 (hDv ▸ Heap.lt_size (N p hp).1)
    rcases List.mem_cons.mp hb with rfl | hb
    · exact h1.1 e
    · exact h1.2 (List.mem_singleton.mp hb ▸ e)
  have loop : ∀ s₃ : Shared, s₃ = { s₂ with heap := h₁, toks := s₂.toks + ([] : List (Str × Value)).length } →
      codeAny (model prog w) A (.compLoop (.ListComp elt [⟨.Name x px, iter, [], 0⟩] scope pos) 0 (.ref I) (.ref D) (compEnvC scope cl C env)) (RR (.ref D) C) s₃ := by
    rintro s₃ rfl
    refine comp_turns (fun k s' => ∃ h' tk oC mC ys cnt nx i, s' = { s₂ with heap := h', toks := tk } ∧ St i h' ∧ Fr h₀ L h' m ∧ News h₀ L h' ((C, oC) :: (D, listOf (List.toArray ys) cnt) :: nx) ∧ NsObj oC mC ∧ (∀ p ∈ nx, p.1 ∉ wr) ∧ OwnOff nx [C, D] ∧ J i ys nx ∧ ys.length = i ∧ i ≤ n ∧ k = n + 1 - i) ?_ (n + 1)
      ⟨h₁, s₂.toks, oC₀, _, [], 0, nx₀, 0, rfl, hst₁, F₁, N₁, nsC₀, hnw, hnx₀, h0, rfl, Nat.zero_le _, rfl⟩
    rintro k s' ⟨h', tk, oC, mC, ys, cnt, nx, i, rfl, hst', F', N', nsC, hnw', hnx, hJ, hys, hi, rfl⟩
    by_cases hlt : i < n
    · refine' wpAny_mono (W.item i _ _ _ hlt hst' (fun v h₂ tk₂ hP hst₂ hk₂ => ?tt)) (fun r s₁ h₁ => ?mm) fun _ _ e => e
      case mm =>
        cases r with
        | none => exact h₁.elim
        | some v => exact h₁
      have hCw : C ∉ wr := fun q => (hfs' _ (W.sub _ q)).1 rfl
      have hDw : D ∉ wr := fun q => (hfs' _ (W.sub _ q)).2 rfl
      have hnw2 : ∀ p ∈ (C, oC) :: (D, listOf (List.toArray ys) cnt) :: nx, p.1 ∉ wr := by
        intro p hp
        rcases List.mem_cons.mp hp with rfl | hp
        · exact hCw
        · rcases List.mem_cons.mp hp with rfl | hp
          · exact hDw
          · exact hnw' p hp
      obtain ⟨F₂, N₂⟩ := own_fr F' N' hLw hwr hnw2 hk₂
      refine wpAny_assign_Name (wpAny_storeName_local (env := compEnvC scope cl C env) (lookup_relabel_local hx) (ns_of_obj (N₂ (C, oC) (.head _)).1 nsC) (fun h₃ hn₃ hs₃ => ?_) (by simp [compEnvC, relabel, hkind]))
      have hs₃' : Heap.SameBut C h₂ h₃ := hs₃
      have F₃ : Fr h₀ L h₃ m := ⟨F₂.ns.sameBut hs₃' (Ne.symm outC.1), fun b o e => (hs₃'.2 b (fun q => by rw [q, outC.2] at e; cases e)).trans (F₂.keep b o e), F₂.above⟩
      obtain ⟨oC₃, hoC₃, nsC₃⟩ := ns_obj hn₃
      have hst₃ : St (i + 1) h₃ := W.frame _ _ _ hst₂ fun b hb o e => (hs₃'.2 b (hfs' b hb).1).trans e
      have Nown : News h₀ L h₃ (ownOf h₀ wr h₃) := news_ownOf hLw
      have N₃ : News h₀ L h₃ ((C, oC₃) :: (D, listOf (List.toArray ys) cnt) :: (nx ++ ownOf h₀ wr h₃)) := by
        intro p hp
        rcases List.mem_cons.mp hp with rfl | hp
        · exact ⟨hoC₃, outC⟩
        · rcases List.mem_cons.mp hp with rfl | hp
          · exact ⟨(hs₃'.2 _ hDC).trans (N₂ _ (.tail _ (.head _))).1, outD⟩
          · rcases List.mem_append.mp hp with hp | hp
            · exact ⟨(hs₃'.2 _ (hnx p hp C (.head _))).trans (N₂ _ (.tail _ (.tail _ hp))).1, (N₂ _ (.tail _ (.tail _ hp))).2⟩
            · exact Nown p hp
      have o1 : OwnOff (ownOf h₀ wr h₃) (nx.map (·.1)) := by
        intro p hp b hb e
        obtain ⟨q, hq, rfl⟩ := List.mem_map.mp hb
        exact hnw' q hq (e ▸ ownOf_sub p hp)
      have o2 : OwnOff (ownOf h₀ wr h₃) [C, D] := by
        intro p hp b hb e
        have h1 := hfs' _ (W.sub _ (ownOf_sub p hp))
        rcases List.mem_cons.mp hb with rfl | hb
        · exact h1.1 e
        · exact h1.2 (List.mem_singleton.mp hb ▸ e)
      refine wpAny_mono (turn i v ys nx h₃ (tk₂ + 1) C D oC₃ cnt (ownOf h₀ wr h₃) mC hlt hP hys o1 o2 (Ne.symm hDC) hnx hJ F₃ N₃ nsC₃) (fun y s₄ h₄ => ?_) fun _ _ z => z.elim
      obtain ⟨h₅, tk₅, nx₅, news₅, rfl, F₅, N₅, hn₅, ho₅, ha₅, hJ₅⟩ := h₄
      have N₅' : News h₀ L h₅ ((C, oC₃) :: (D, listOf (List.toArray ys) cnt) :: (nx₅ ++ ownOf h₀ wr h₃)) := by
        intro p hp
        rcases List.mem_cons.mp hp with rfl | hp
        · exact N₅ _ (ho₅ _ (.head _))
        · rcases List.mem_cons.mp hp with rfl | hp
          · exact N₅ _ (ho₅ _ (.tail _ (.head _)))
          · rcases List.mem_append.mp hp with hp | hp
            · exact N₅ _ (hn₅ _ hp)
            · exact N₅ _ (ho₅ _ (.tail _ (.tail _ hp)))
      have hnx₅ : OwnOff nx₅ [C, D] := fun p hp b hb e => by
        rcases List.mem_cons.mp hb with rfl | hb
        · exact ha₅ _ (.head _) p.1 (List.mem_map.mpr ⟨p, hp, rfl⟩) e.symm
        · exact ha₅ _ (.tail _ (.head _)) p.1 (List.mem_map.mpr ⟨p, hp, rfl⟩) ((List.mem_singleton.mp hb ▸ e).symm)
      have hoff₅ : ∀ p ∈ nx₅, p.1 ∉ wr := fun p hp hq => by
        obtain ⟨o, ho⟩ := W.live _ _ hst₃ _ hq
        exact ha₅ _ (.tail _ (.tail _ (mem_ownOf hq (hwr _ hq) ho))) p.1 (List.mem_map.mpr ⟨p, hp, rfl⟩) rfl
      have U : Upd D (listOf (List.toArray ys) cnt) (listOf ((List.toArray ys).push y) (cnt + 1)) ((C, oC₃) :: (D, listOf (List.toArray ys) cnt) :: (nx₅ ++ ownOf h₀ wr h₃)) ((C, oC₃) :: (D, listOf ((List.toArray ys).push y) (cnt + 1)) :: (nx₅ ++ ownOf h₀ wr h₃)) := by
        refine Upd.tail (Ne.symm hDC) (Upd.head ?_)
        intro p hp
        rcases List.mem_append.mp hp with hp | hp
        · exact hnx₅ p hp D (.tail _ (.head _))
        · exact o2 p hp D (.tail _ (.head _))
      refine append_K F₅ N₅' U (fun h₆ F₆ N₆ => ?_) (by rw [List.size_toArray, hys]; exact Nat.le_trans (Nat.le_of_lt hlt) hsz)
      rw [List.push_toArray] at N₆
      refine ⟨n + 1 - (i + 1), by omega, h₆, tk₅, oC₃, _, ys ++ [y], cnt + 1, nx₅, i + 1, rfl, ?_, F₆, ?_, nsC₃, hoff₅, hnx₅, hJ₅, by rw [List.length_append, hys]; rfl, hlt, rfl⟩
      · refine W.frame _ _ _ hst₃ fun b hb o e => ?_
        rcases hfp b hb with h6 | ⟨o₀, h6⟩ | ⟨o₀, h6⟩
        · exact (N₆ _ (.tail _ (.tail _ (List.mem_append_right _ (mem_ownOf h6 (hwr b h6) e))))).1
        · have e2 := F₃.keep b o₀ h6
          rw [e] at e2; cases e2
          exact F₆.keep b o h6
        · have e2 := (N₃ _ (.tail _ (.tail _ (List.mem_append_left _ (h6 _ _ _ hJ))))).1
          rw [e] at e2; cases e2
          exact (N₆ _ (.tail _ (.tail _ (List.mem_append_left _ (h6 _ _ _ hJ₅))))).1
      · intro p hp
        rcases List.mem_cons.mp hp with rfl | hp
        · exact N₆ _ (.head _)
        · rcases List.mem_cons.mp hp with rfl | hp
          · exact N₆ _ (.tail _ (.head _))
          · exact N₆ _ (.tail _ (.tail _ (List.mem_append_left _ hp)))
    · have hin : i = n := by omega
      subst hin
      refine W.done _ _ _ hst' fun h₂ tk₂ hk₂ => ?_
      have hnw2 : ∀ p ∈ (C, oC) :: (D, listOf (List.toArray ys) cnt) :: nx, p.1 ∉ wr := by
        intro p hp
        rcases List.mem_cons.mp hp with rfl | hp
        · exact fun q => (hfs' _ (W.sub _ q)).1 rfl
        · rcases List.mem_cons.mp hp with rfl | hp
          · exact fun q => (hfs' _ (W.sub _ q)).2 rfl
          · exact hnw' p hp
      obtain ⟨F₂, N₂⟩ := own_fr F' N' hLw hwr hnw2 hk₂
      exact hRR D C oC mC ys cnt nx h₂ tk₂ F₂ N₂ nsC hDC hnx hys hJ
  exact codeAny_compStart_list (loop _ rfl) (W.self 0 _ _ _ hst₁ (loop _ rfl))

theorem comp_eval {elt iter : Expr} {x : Str} {px : Pos} {scope : Scope} {cl : List (Str × Addr)} {pos : Pos} {L : Addr} {m : Str → Option Value} {Q : Value → Shared → Prop}
    (_F : Fr h₀ L s.heap m) (hclos : closureFor scope env = pure cl) (hcell : ∀ y ∈ scope.names, y.2 ≠ .cell) (hkind : scope.kind = .function)
    (hnames : ∀ y ∈ scope.names, y.2 = .local → scope.names.lookup y.1 = some .local) (hx : scope.names.lookup x = some .local)
    (h : wpAny (model prog w) A (eval iter env) (fun xv s₁ => wpAny (model prog w) A (pyIter xv) (fun it s₂ => CompS prog w A h₀ L m (fun _ => m) env x px elt scope cl (fun D s' => Q (.ref D) s') it s₂) E s₁) E s)
    (hs : ∀ x, foldedSetIterable iter env x = pure x) :
    wpAny (model prog w) A (eval (.ListComp elt [⟨.Name x px, iter, [], 0⟩] scope pos) env) Q E s := by
  rw [eval_ListComp]
  refine wpAny_comprehension_free (use := none) rfl hs hclos hkind hnames (wpAny_mono h (fun xv s₁ h₁ => wpAny_mono h₁ (fun it s₂ h₂ => ?_) fun _ _ e => e) fun _ _ e => e)
  obtain ⟨I, fp, wr, n, Pv, St, nx₀, J, rfl, W, hsz, hLf, hwr, hfs, hnw, hfp, hst, F, N, h0, turn, done⟩ := h₂
  refine comp_block (RR := fun acc C => compPost (model prog w) A E none Q acc C) hcell hkind hx W hsz hLf hwr hfs hnw hfp hst F N h0 turn ?_
  intro D C oC mC ys cnt nx h' tk F' N' nsC hDC hnx hys hJ
  refine ⟨mC, ns_of_obj (N' _ (.head _)).1 nsC, fun h'' hs'' => ?_⟩
  have hCL := (N' (C, oC) (.head _)).2
  refine done D ys cnt nx h'' tk ⟨F'.ns.sameBut hs'' (Ne.symm hCL.1), fun b o e => (hs''.2 b (fun q => by rw [q, hCL.2] at e; cases e)).trans (F'.keep b o e), F'.above⟩ (fun p hp => ?_) (fun p hp b hb => ?_) hys hJ
  · have hne : p.1 ≠ C := by
      rcases List.mem_cons.mp hp with rfl | hp
      · exact hDC
      · exact hnx p hp C (.head _)
    have := N' p (.tail _ hp)
    exact ⟨(hs''.2 _ hne).trans this.1, this.2⟩
  · exact hnx p hp b (.tail _ hb)

theorem comp_assign {elt iter : Expr} {x y : Str} {px py : Pos} {scope : Scope} {cl : List (Str × Addr)} {pos spos : Pos} {m : Str → Option Value} {Q : Flow → Shared → Prop}
    (_F : Fr h₀ env.locals s.heap m) (hsw : swapsWith (.ListComp elt [⟨.Name x px, iter, [], 0⟩] scope pos) (some (.Name y py)) spos.line env = pure true)
    (hclos : closureFor scope env = pure cl) (hcell : ∀ y ∈ scope.names, y.2 ≠ .cell) (hkind : scope.kind = .function)
    (hnames : ∀ y ∈ scope.names, y.2 = .local → scope.names.lookup y.1 = some .local) (hx : scope.names.lookup x = some .local)
    (hy : env.kindOf y = some .local) (hp : (env.scope.kind == .class || (env.scope.kind == .module && env.locals != env.globals)) = false)
    (h : wpAny (model prog w) A (eval iter env) (fun xv s₁ => wpAny (model prog w) A (pyIter xv) (fun it s₂ => CompS prog w A h₀ env.locals m (fun D z => if z = y then some (.ref D) else m z) env x px elt scope cl (fun _ s' => Q .next s') it s₂) E s₁) E s)
    (hs : ∀ x, foldedSetIterable iter env x = pure x) :
    wpAny (model prog w) A (exec (.Assign [.Name y py] (.ListComp elt [⟨.Name x px, iter, [], 0⟩] scope pos) spos) env) Q E s := by
  rw [exec_Assign_Name_used _ _ _ _ hsw]
  refine wpAny_bind (wpAny_standAt (wpAny_bind ?_))
  show wpAny _ A (do let _ ← comprehension (.ListComp elt [⟨.Name x px, iter, [], 0⟩] scope pos) scope env _ (newList []) false (eval iter env) (some (assign (.Name y py) env))) _ _ s
  refine wpAny_bind (wpAny_mono (wpAny_comprehension_free (use := some (assign (.Name y py) env)) (Q := fun _ s' => Q .next s') rfl hs hclos hkind hnames
    (wpAny_mono h (fun xv s₁ h₁ => wpAny_mono h₁ (fun it s₂ h₂ => ?_) fun _ _ e => e) fun _ _ e => e)) (fun _ s' hq => wpAny_pure (wpAny_pure hq)) fun _ _ e => e)
  obtain ⟨I, fp, wr, n, Pv, St, nx₀, J, rfl, W, hsz, hLf, hwr, hfs, hnw, hfp, hst, F, N, h0, turn, done⟩ := h₂
  refine comp_block (RR := fun acc C => compPost (model prog w) A E (some (assign (.Name y py) env)) (fun _ s' => Q .next s') acc C) hcell hkind hx W hsz hLf hwr hfs hnw hfp hst F N h0 turn ?_
  intro D C oC mC ys cnt nx h' tk F' N' nsC hDC hnx hys hJ
  have hCL := (N' (C, oC) (.head _)).2
  show wpAny _ A (assign (.Name y py) env (.ref D)) _ _ _
  refine wpAny_assign_Name (wpAny_storeName_local hy F'.ns (fun h₂ hn₂ hs₂ => ?_) hp)
  have F₂ := F'.set hn₂ hs₂
  have N₂ := N'.set hs₂
  refine ⟨mC, ns_of_obj (N₂ _ (.head _)).1 nsC, fun h'' hs'' => ?_⟩
  refine done D ys cnt nx h'' _ ⟨F₂.ns.sameBut hs'' (Ne.symm hCL.1), fun b o e => (hs''.2 b (fun q => by rw [q, hCL.2] at e; cases e)).trans (F₂.keep b o e), F₂.above⟩ (fun p hp => ?_) (fun p hp b hb => ?_) hys hJ
  · have hne : p.1 ≠ C := by
      rcases List.mem_cons.mp hp with rfl | hp
      · exact hDC
      · exact hnx p hp C (.head _)
    have := N₂ p (.tail _ hp)
    exact ⟨(hs''.2 _ hne).trans this.1, this.2⟩
  · exact hnx p hp b (.tail _ hb)
end

section
variable {prog : Program} {w : World} {A : Around} {E : Value → Shared → Prop} {s : Shared} {env : Env} {h₀ : Heap}

theorem Src.widen {I : Addr} {target : Expr} {fp wr wr' : List Addr} {n : Nat} {Pv : Nat → Heap → Value → Prop} {St : Nat → Heap → Prop} (W : Src prog w A I target fp wr n Pv St) (h1 : ∀ b ∈ wr, b ∈ wr') (h2 : ∀ b ∈ wr', b ∈ fp)
    (h3 : ∀ i h, St i h → ∀ b ∈ wr', ∃ o, h.get? b = some o) : Src prog w A I target fp wr' n Pv St where
  sub := h2
  frame := W.frame
  live := h3
  item := fun i s Q E hi st hQ => W.item i s Q E hi st fun v h' tk hP st' hk => hQ v h' tk hP st' fun b o hb e => hk b o (fun q => hb (h1 b q)) e
  done := fun s Q E st hQ => W.done s Q E st fun h' tk hk => hQ h' tk fun b o hb e => hk b o (fun q => hb (h1 b q)) e
  self := W.self

/-- a source stands ready, made anew over what is read -/
noncomputable def SrcAt (prog : Program) (w : World) (A : Around) (target : Expr) (n : Nat) (Pv : Nat → Heap → Value → Prop) (rd : List Addr) (s : Shared) (it : Value) (s₂ : Shared) : Prop :=
  ∃ (I : Addr) (fp wr : List Addr) (St : Nat → Heap → Prop) (h₂ : Heap), it = .ref I ∧ s₂ = { s with heap := h₂ } ∧ Src prog w A I target fp wr n Pv St ∧ St 0 h₂ ∧ (∀ b o, s.heap.get? b = some o → h₂.get? b = some o) ∧
    (∀ b ∈ wr, s.heap.objs.size ≤ b) ∧ (∀ b ∈ fp, b ∈ wr ∨ b ∈ rd) ∧ ∀ b ∈ fp, b < h₂.objs.size

theorem loop_of {target : Expr} {body : List Stmt} {Q : Flow → Shared → Prop} {n : Nat} {Pv : Nat → Heap → Value → Prop} {rd : List Addr} {it : Value} {s₂ : Shared} {m : Str → Option Value} {nx₀ : List (Addr × Obj)}
    (J : Nat → (Str → Option Value) → List (Addr × Obj) → Prop) (S : SrcAt prog w A target n Pv rd s it s₂) (F : Fr h₀ env.locals s.heap m) (N : News h₀ env.locals s.heap nx₀) (h0 : J 0 m nx₀)
    (hrd : ∀ b ∈ rd, (∃ o, h₀.get? b = some o) ∨ ∃ o, ∀ i m nx, J i m nx → (b, o) ∈ nx)
    (turn : ∀ i v m₁ nx h tk own, i < n → Pv i h v → OwnOff own (nx.map (·.1)) → J i m₁ nx → Fr h₀ env.locals h m₁ → News h₀ env.locals h (nx ++ own) →
      wpAny (model prog w) A (assign target env v) (fun _ s₃ => wpAny (model prog w) A (execs body env) (SrcTurn h₀ env.locals (J (i + 1)) own { s with heap := h, toks := tk }) (fun _ _ => False) s₃) (fun _ _ => False) { s with heap := h, toks := tk })
    (done : ∀ h' tk m' nx, J n m' nx → Fr h₀ env.locals h' m' → News h₀ env.locals h' nx → Q .next { s with heap := h', toks := tk }) : LoopS prog w A h₀ env target body Q it s₂ := by
  obtain ⟨I, fp, wr, St, h₂, rfl, rfl, W, hst, hk, hwr, hfp, hfs⟩ := S
  have hLs : env.locals < s.heap.objs.size := F.ns.lt
  have hab : h₀.objs.size ≤ env.locals := F.above
  refine ⟨I, fp, wr, n, Pv, St, m, nx₀, J, rfl, W, fun q => ?_, fun b hb => ?_, fun p hp q => ?_, fun b hb => ?_, hst, ⟨F.ns.keeps hk, fun b o e => hk b o (F.keep b o e), F.above⟩, fun p hp => ⟨hk _ _ (N p hp).1, (N p hp).2⟩, h0, turn, done⟩
  · rcases hfp _ q with h1 | h1
    · exact absurd hLs (Nat.not_lt.mpr (hwr _ h1))
    · rcases hrd _ h1 with ⟨o, e⟩ | ⟨o, e⟩
      · exact absurd (Heap.lt_size e) (Nat.not_lt.mpr hab)
      · exact (N _ (e _ _ _ h0)).2.1 rfl
  · exact Heap.get?_none_of_le (Nat.le_trans hab (Nat.le_trans (Nat.le_of_lt hLs) (hwr b hb)))
  · exact absurd (Heap.lt_size (N p hp).1) (Nat.not_lt.mpr (hwr _ q))
  · rcases hfp b hb with h1 | h1
    · exact .inl h1
    · exact .inr (hrd b h1)

theorem comp_of {x : Str} {px : Pos} {elt : Expr} {scope : Scope} {cl : List (Str × Addr)} {L : Addr} {Q : Addr → Shared → Prop} {n : Nat} {Pv : Nat → Value → Prop} {rd : List Addr} {it : Value} {s₂ : Shared} {m : Str → Option Value} {md : Addr → Str → Option Value} {nx₀ : List (Addr × Obj)}
    (J : Nat → List Value → List (Addr × Obj) → Prop) (S : SrcAt prog w A (.Name x px) n (fun i _ v => Pv i v) rd s it s₂) (hsz : n ≤ sizeLine) (F : Fr h₀ L s.heap m) (N : News h₀ L s.heap nx₀) (h0 : J 0 [] nx₀)
    (hrd : ∀ b ∈ rd, (∃ o, h₀.get? b = some o) ∨ ∃ o, ∀ i ys nx, J i ys nx → (b, o) ∈ nx)
    (turn : ∀ i v ys nx h tk C D oC cnt own (mC : Str → Option Value), i < n → Pv i v → ys.length = i → OwnOff own (nx.map (·.1)) → OwnOff own [C, D] → C ≠ D → OwnOff nx [C, D] → J i ys nx → Fr h₀ L h m → News h₀ L h ((C, oC) :: (D, listOf ys.toArray cnt) :: (nx ++ own)) → NsObj oC (fun z => if z = x then some v else mC z) →
      wpAny (model prog w) A (eval elt (compEnvC scope cl C env)) (EltEnd h₀ L m (J (i + 1)) ys ((C, oC) :: (D, listOf ys.toArray cnt) :: own) { s with heap := h, toks := tk }) (fun _ _ => False) { s with heap := h, toks := tk })
    (done : ∀ D ys cnt nx h' tk, Fr h₀ L h' (md D) → News h₀ L h' ((D, listOf ys.toArray cnt) :: nx) → OwnOff nx [D] → ys.length = n → J n ys nx → Q D { s with heap := h', toks := tk }) :
    CompS prog w A h₀ L m md env x px elt scope cl Q it s₂ := by
  obtain ⟨I, fp, wr, St, h₂, rfl, rfl, W, hst, hk, hwr, hfp, hfs⟩ := S
  have hLs : L < s.heap.objs.size := F.ns.lt
  have hab : h₀.objs.size ≤ L := F.above
  refine ⟨I, fp, wr, n, Pv, St, nx₀, J, rfl, W, hsz, fun q => ?_, fun b hb => ?_, hfs, fun p hp q => ?_, fun b hb => ?_, hst, ⟨F.ns.keeps hk, fun b o e => hk b o (F.keep b o e), F.above⟩, fun p hp => ⟨hk _ _ (N p hp).1, (N p hp).2⟩, h0, turn, done⟩
  · rcases hfp _ q with h1 | h1
    · exact absurd hLs (Nat.not_lt.mpr (hwr _ h1))
    · rcases hrd _ h1 with ⟨o, e⟩ | ⟨o, e⟩
      · exact absurd (Heap.lt_size e) (Nat.not_lt.mpr hab)
      · exact (N _ (e _ _ _ h0)).2.1 rfl
  · exact Heap.get?_none_of_le (Nat.le_trans hab (Nat.le_trans (Nat.le_of_lt hLs) (hwr b hb)))
  · exact absurd (Heap.lt_size (N p hp).1) (Nat.not_lt.mpr (hwr _ q))
  · rcases hfp b hb with h1 | h1
    · exact .inl h1
    · exact .inr (hrd b h1)

theorem src_list {l : Addr} {items : Array Value} {target : Expr} (hh : A.handled = none) (hl : s.heap.IsList l items) {Q : Value → Shared → Prop}
    (k : ∀ it s₂, SrcAt prog w A target items.size (fun i _ v => items[i]? = some v) [l] s it s₂ → Q it s₂) : wpAny (model prog w) A (pyIter (.ref l)) Q E s := by
  have hlt : l < s.heap.objs.size := by obtain ⟨_, e, _⟩ := hl; exact Heap.lt_size e
  have W := Walks.list (prog := prog) (w := w) hh s.heap.objs.size l (Nat.ne_of_lt hlt) items
  refine wpAny_pyIter_list hl (k _ _ ⟨s.heap.objs.size, _, _, _, _, rfl, rfl, Src.ofWalks W (fun i s' v Q E st hQ => letGo_listiter st.1 hQ) (fun i h st b hb => ?_), ⟨⟨_, Heap.get?_push_size _ rfl, rfl, rfl⟩, hl.push _⟩, fun b o e => Heap.get?_push_of_some _ e, fun b hb => ?_, fun b hb => ?_, fun b hb => ?_⟩)
  · rw [List.mem_singleton.mp hb]; obtain ⟨⟨o, ho, _⟩, _⟩ := st; exact ⟨o, ho⟩
  · rw [List.mem_singleton.mp hb]; exact Nat.le_refl _
  · rcases List.mem_cons.mp hb with rfl | hb
    · exact .inl (.head _)
    · exact .inr hb
  · rw [Heap.size_push]
    rcases List.mem_cons.mp hb with rfl | hb
    · exact Nat.lt_succ_self _
    · rw [List.mem_singleton.mp hb]; exact Nat.lt_succ_of_lt hlt

theorem letGo_rangeiter {target : Expr} {I : Addr} {a b c : Int} {v : Value} {Q' : Unit → Shared → Prop} {s' : Shared} (hit : IsRangeIter s'.heap I a b c) (h : Q' () s') :
    wpAny (model prog w) A (letOwnedTupleGo target (.ref I) v) Q' E s' := by
  unfold letOwnedTupleGo
  cases target <;> first
    | exact wpAny_pure h
    | (cases v <;> first
      | exact wpAny_pure h
      | exact wpAny_bind (wpAny_load hit (wpAny_pure h))
      | (refine wpAny_bind (wpAny_load hit ?_); exact wpAny_pure h))

theorem src_range {r : Addr} {a b c : Int} {t u v : Tok} {n : Nat} {target : Expr} (hh : A.handled = none) (hr : IsRange s.heap r a b c t u v) (hsmall : Builtin.Range.small a b c = true) (hn : Builtin.Range.rangeSize a b c = (n : Int)) {Q : Value → Shared → Prop}
    (k : ∀ it s₂, SrcAt prog w A target n (fun i _ v => ∃ t, v = .int (a + (i : Int) * c) t) [] s it s₂ → Q it s₂) : wpAny (model prog w) A (pyIter (.ref r)) Q E s := by
  have W := Walks.range (prog := prog) (w := w) hh s.heap.objs.size a c n
  refine wpAny_pyIter_range hr hsmall (k _ _ ⟨s.heap.objs.size, _, _, _, _, rfl, rfl, Src.ofWalks W (fun i s' v Q E st hQ => letGo_rangeiter st hQ) (fun i h st b hb => ?_), ?_, fun b o e => Heap.get?_push_of_some _ e, fun b hb => ?_, fun b hb => .inl hb, fun b hb => ?_⟩)
  · rw [List.mem_singleton.mp hb]; exact ⟨_, st⟩
  · show IsRangeIter _ _ _ _ _
    rw [hn]; simpa using Heap.get?_push_size _ rfl
  · rw [List.mem_singleton.mp hb]; exact Nat.le_refl _
  · rw [List.mem_singleton.mp hb, Heap.size_push]; exact Nat.lt_succ_self _

theorem src_enum {l : Addr} {items : Array Value} {elts : List Expr} {k0 : Nat} {pos : Pos} (hh : A.handled = none) (hl : s.heap.IsList l items) {Q : Value → Shared → Prop}
    (k : ∀ it s₂, SrcAt prog w A (.Tuple elts k0 pos) items.size (fun i h v => ∃ T vals, v = .ref T ∧ (∃ t x, items[i]? = some x ∧ vals = #[.int (i : Int) t, x]) ∧ h.IsTuple T vals) [l] s it s₂ → Q it s₂) :
    wpAny (model prog w) A (call (.type "enumerate") [.ref l]) (fun xv s₁ => wpAny (model prog w) A (pyIter xv) (fun it s₂ => Q it s₂) E s₁) E s := by
  have hlt : l < s.heap.objs.size := by obtain ⟨_, e, _⟩ := hl; exact Heap.lt_size e
  refine call_enumerate_list hl fun h' he hit hsz hk => ?_
  refine wpAny_pyIter_enum he ?_
  have W := WalksT.enumerate (prog := prog) (w := w) hh (s.heap.objs.size + 1) s.heap.objs.size l (Nat.succ_ne_self _) (Nat.ne_of_lt (Nat.lt_succ_of_lt hlt)) (Nat.ne_of_lt hlt) items
  refine k _ _ ⟨s.heap.objs.size + 1, _, _, _, h', rfl, rfl, Src.ofWalksT W (fun i h st b hb => ?_), ⟨⟨_, by simpa using he⟩, hit, hl.at fun o e => hk l o e⟩, hk, fun b hb => ?_, fun b hb => ?_, fun b hb => ?_⟩
  · obtain ⟨⟨old, he⟩, ⟨o, ho, _⟩, _⟩ := st
    rcases List.mem_cons.mp hb with rfl | hb
    · exact ⟨_, he⟩
    · rw [List.mem_singleton.mp hb]; exact ⟨o, ho⟩
  · rcases List.mem_cons.mp hb with rfl | hb
    · exact Nat.le_succ _
    · rw [List.mem_singleton.mp hb]; exact Nat.le_refl _
  · rcases List.mem_cons.mp hb with rfl | hb
    · exact .inl (.head _)
    · rcases List.mem_cons.mp hb with rfl | hb
      · exact .inl (.tail _ (.head _))
      · exact .inr hb
  · rw [hsz]
    rcases List.mem_cons.mp hb with rfl | hb
    · exact Nat.lt_succ_self _
    · rcases List.mem_cons.mp hb with rfl | hb
      · exact Nat.lt_succ_of_lt (Nat.lt_succ_self _)
      · rw [List.mem_singleton.mp hb]; exact Nat.lt_succ_of_lt (Nat.lt_succ_of_lt hlt)

theorem src_zip {l1 l2 : Addr} {xs ys : Array Value} {elts : List Expr} {k0 : Nat} {pos : Pos} (hh : A.handled = none) (hl1 : s.heap.IsList l1 xs) (hl2 : s.heap.IsList l2 ys) {Q : Value → Shared → Prop}
    (k : ∀ it s₂, SrcAt prog w A (.Tuple elts k0 pos) (min xs.size ys.size) (fun i h v => ∃ T vals, v = .ref T ∧ (∃ x y, xs[i]? = some x ∧ ys[i]? = some y ∧ vals = #[x, y]) ∧ h.IsTuple T vals) [l1, l2] s it s₂ → Q it s₂) :
    wpAny (model prog w) A (call (.type "zip") [.ref l1, .ref l2]) (fun xv s₁ => wpAny (model prog w) A (pyIter xv) (fun it s₂ => Q it s₂) E s₁) E s := by
  have hlt1 : l1 < s.heap.objs.size := by obtain ⟨_, e, _⟩ := hl1; exact Heap.lt_size e
  have hlt2 : l2 < s.heap.objs.size := by obtain ⟨_, e, _⟩ := hl2; exact Heap.lt_size e
  refine call_zip_2 hl1 hl2 fun h' hz hTI hTO hit1 hit2 hsz hk => ?_
  refine wpAny_pyIter_zip hz ?_
  have W := WalksT.zip2 (prog := prog) (w := w) hh (s.heap.objs.size + 4) (s.heap.objs.size + 2) (s.heap.objs.size + 3) s.heap.objs.size (s.heap.objs.size + 1) l1 l2 (zipApart_new hlt1 hlt2) xs ys
  have W' := Src.ofWalksT (elts := elts) (k := k0) (pos := pos) W (fun i h st b hb => by
    obtain ⟨hz, hTI, ⟨a, b', hTO⟩, ⟨o1, h1, _⟩, ⟨o2, h2, _⟩, _⟩ := st
    simp only [List.mem_cons, List.not_mem_nil, or_false] at hb
    rcases hb with rfl | rfl | rfl | rfl
    · exact ⟨_, hz⟩
    · exact ⟨_, hTO⟩
    · exact ⟨_, h1⟩
    · exact ⟨_, h2⟩)
  refine k _ _ ⟨s.heap.objs.size + 4, _, [s.heap.objs.size + 4, s.heap.objs.size + 2, s.heap.objs.size + 3, s.heap.objs.size, s.heap.objs.size + 1], _, h', rfl, rfl, W'.widen ?_ ?_ ?_, ⟨hz, hTI, ⟨_, _, hTO⟩, hit1, hit2, hl1.at fun o e => hk l1 o e, hl2.at fun o e => hk l2 o e⟩, hk, fun b hb => ?_, fun b hb => ?_, fun b hb => ?_⟩
  · intro b hb
    simp only [List.mem_cons, List.not_mem_nil, or_false] at hb ⊢
    rcases hb with rfl | rfl | rfl | rfl <;> simp
  · intro b hb
    simp only [List.mem_cons, List.not_mem_nil, or_false] at hb ⊢
    rcases hb with rfl | rfl | rfl | rfl | rfl <;> simp
  · intro i h st b hb
    obtain ⟨hz, hTI, ⟨a, b', hTO⟩, ⟨o1, h1, _⟩, ⟨o2, h2, _⟩, _⟩ := st
    simp only [List.mem_cons, List.not_mem_nil, or_false] at hb
    rcases hb with rfl | rfl | rfl | rfl | rfl
    · exact ⟨_, hz⟩
    · exact ⟨_, hTI⟩
    · exact ⟨_, hTO⟩
    · exact ⟨_, h1⟩
    · exact ⟨_, h2⟩
  · simp only [List.mem_cons, List.not_mem_nil, or_false] at hb
    rcases hb with rfl | rfl | rfl | rfl | rfl <;> omega
  · simp only [List.mem_cons, List.not_mem_nil, or_false] at hb ⊢
    rcases hb with rfl | rfl | rfl | rfl | rfl | rfl | rfl <;> simp
  · rw [hsz]
    simp only [List.mem_cons, List.not_mem_nil, or_false] at hb
    rcases hb with rfl | rfl | rfl | rfl | rfl | rfl | rfl
    · exact Nat.add_lt_add_left (by decide) _
    · exact Nat.add_lt_add_left (by decide) _
    · exact Nat.add_lt_add_left (by decide) _
    · exact Nat.lt_add_of_pos_right (by decide)
    · exact Nat.add_lt_add_left (by decide) _
    · exact Nat.lt_add_right _ hlt1
    · exact Nat.lt_add_right _ hlt2
end

/-- values and data, place by place -/
noncomputable def Are {α : Type} (R : Value → α → Prop) (vs : List Value) (xs : List α) : Prop := vs.length = xs.length ∧ ∀ (i : Nat) v x, vs[i]? = some v → xs[i]? = some x → R v x
theorem Are.nil {α : Type} {R : Value → α → Prop} : Are R [] [] := ⟨rfl, fun i v x h => by simp at h⟩
theorem Are.snoc {α : Type} {R : Value → α → Prop} {vs : List Value} {xs : List α} {v : Value} {x : α} (h : Are R vs xs) (r : R v x) : Are R (vs ++ [v]) (xs ++ [x]) := by
  refine ⟨by simp [h.1], fun i v' x' hv hx => ?_⟩
  by_cases hi : i < vs.length
  · rw [List.getElem?_append_left hi] at hv
    rw [List.getElem?_append_left (h.1 ▸ hi)] at hx
    exact h.2 i v' x' hv hx
  · rw [List.getElem?_append_right (Nat.not_lt.mp hi)] at hv
    rw [List.getElem?_append_right (h.1 ▸ Nat.not_lt.mp hi), ← h.1] at hx
    cases hj : i - vs.length with
    | zero => rw [hj] at hv hx; simp at hv hx; subst hv hx; exact r
    | succ j => rw [hj] at hv; simp at hv
theorem Are.mono {α : Type} {R R' : Value → α → Prop} (hr : ∀ v x, R v x → R' v x) {vs : List Value} {xs : List α} (h : Are R vs xs) : Are R' vs xs := ⟨h.1, fun i v x a b => hr _ _ (h.2 i v x a b)⟩
theorem Are.at {α : Type} {R : Value → α → Prop} {vs : List Value} {xs : List α} (h : Are R vs xs) {i : Nat} {x : α} (hx : xs[i]? = some x) : ∃ v, vs[i]? = some v ∧ R v x := by
  have hi : i < xs.length := (List.getElem?_eq_some_iff.mp hx).1
  have hv : vs[i]? = some (vs[i]'(h.1 ▸ hi)) := List.getElem?_eq_getElem _
  exact ⟨_, hv, h.2 i _ x hv hx⟩
theorem Are.take {α : Type} {R : Value → α → Prop} {vs : List Value} {xs : List α} (h : Are R vs xs) (n : Nat) : Are R (vs.take n) (xs.take n) := by
  refine ⟨by simp [h.1], fun i v x hv hx => ?_⟩
  rw [List.getElem?_take] at hv hx
  split at hv
  · rename_i hi; rw [if_pos hi] at hx; exact h.2 i v x hv hx
  · cases hv
theorem Are.append {α : Type} {R : Value → α → Prop} {vs ws : List Value} {xs ys : List α} (h : Are R vs xs) (k : Are R ws ys) : Are R (vs ++ ws) (xs ++ ys) := by
  refine ⟨by simp [h.1, k.1], fun i v x hv hx => ?_⟩
  by_cases hi : i < vs.length
  · rw [List.getElem?_append_left hi] at hv
    rw [List.getElem?_append_left (h.1 ▸ hi)] at hx
    exact h.2 i v x hv hx
  · rw [List.getElem?_append_right (Nat.not_lt.mp hi)] at hv
    rw [List.getElem?_append_right (h.1 ▸ Nat.not_lt.mp hi), ← h.1] at hx
    exact k.2 _ v x hv hx

/-- a pair of ints as a tuple -/
noncomputable def PairAt (h : Heap) (v : Value) (p : Int × Int) : Prop := ∃ a t u, v = .ref a ∧ IsTup h a [Value.int p.1 t, Value.int p.2 u].toArray
/-- a list of ints -/
noncomputable def IntsAt (h : Heap) (v : Value) (ns : List Int) : Prop := ∃ a vs, v = .ref a ∧ h.IsList a vs.toArray ∧ IntsAre vs ns
theorem PairAt.keeps {h h' : Heap} (k : h.StaysIn h') {v : Value} {p : Int × Int} (x : PairAt h v p) : PairAt h' v p := let ⟨a, t, u, e, i⟩ := x; ⟨a, t, u, e, i.keeps k⟩
theorem IntsAt.keeps {h h' : Heap} (k : h.StaysIn h') {v : Value} {ns : List Int} (x : IntsAt h v ns) : IntsAt h' v ns := let ⟨a, vs, e, i, j⟩ := x; ⟨a, vs, e, stays_list k i, j⟩

/-- a list of data in the heap -/
noncomputable def LstAt {α : Type} (R : Heap → Value → α → Prop) (h : Heap) (a : Addr) (xs : List α) : Prop := ∃ vs, h.IsList a vs.toArray ∧ Are (R h) vs xs
theorem LstAt.keeps {α : Type} {R : Heap → Value → α → Prop} (hR : ∀ h h' v x, h.StaysIn h' → R h v x → R h' v x) {h h' : Heap} (k : h.StaysIn h') {a : Addr} {xs : List α} (x : LstAt R h a xs) : LstAt R h' a xs :=
  let ⟨vs, i, j⟩ := x; ⟨vs, stays_list k i, j.mono fun v y => hR _ _ v y k⟩
theorem stays_of_gsub {h h' : Heap} (g : GSub h h' []) : h.StaysIn h' := fun b o e => g b o e (fun x => nomatch x)

theorem fr_norm {h₀ h : Heap} {L : Addr} {m₀ m₁ : Str → Option Value} (names : List Str) (hm : ∀ z, names.contains z = false → m₁ z = m₀ z) (F : Fr h₀ L h m₁) : Fr h₀ L h (fun z => if names.contains z = true then m₁ z else m₀ z) := by
  have e : (fun z => if names.contains z = true then m₁ z else m₀ z) = m₁ := by
    funext z
    cases hz : names.contains z with
    | true => rfl
    | false => exact (hm z hz).symm
  rw [e]; exact F
theorem ne_of_contains {names : List Str} {z y : Str} (h : names.contains z = false) (hy : names.contains y = true) : z ≠ y := fun e => by rw [e, hy] at h; cases h

theorem eq_pair {prog : Program} {w : World} {A : Around} {E : Value → Shared → Prop} {s : Shared} {l l' : Addr} {a b c d : Int} {t u t' u' : Tok} {Q : Value → Shared → Prop} (hl : IsTup s.heap l [Value.int a t, Value.int b u].toArray) (hb : IsTup s.heap l' [Value.int c t', Value.int d u'].toArray)
    (hu : A.units < cLine) (h : Q (.bool (decide ((a, b) = (c, d)))) s) : wpAny (model prog w) A (compareOp .Eq (.ref l) (.ref l')) Q E s := by
  refine SeqAt.eq_tupleAt (e := fun j => if j = 0 then a == c else b == d) hl hb hu (fun j h1 h2 => ?_) ?_
  · match j, h1 with
    | 0, _ => exact (MeetsSeq.EqGives.int a c t t').at _ _
    | 1, _ => exact (MeetsSeq.EqGives.int b d u u').at _ _
    | (k + 2), h1 => exact absurd h1 (by simp)
  · have e : ((List.range (min [Value.int a t, Value.int b u].toArray.size [Value.int c t', Value.int d u'].toArray.size)).all (fun j => if j = 0 then a == c else b == d) && [Value.int a t, Value.int b u].toArray.size == [Value.int c t', Value.int d u'].toArray.size) = decide ((a, b) = (c, d)) := by
      have : (List.range (min [Value.int a t, Value.int b u].toArray.size [Value.int c t', Value.int d u'].toArray.size)) = [0, 1] := by rfl
      rw [this]
      simp only [List.all_cons, List.all_nil, Prod.mk.injEq]
      by_cases h1 : a = c <;> by_cases h2 : b = d <;> simp [h1, h2]
    rw [e]; exact h
theorem for_srcF {prog : Program} {w : World} {A : Around} {E : Value → Shared → Prop} {s : Shared} {env : Env} {h₀ : Heap} {m : Str → Option Value} {Q : Flow → Shared → Prop} {target iter : Expr} {body : List Stmt} {pos : Pos} (_F : Fr h₀ env.locals s.heap m)
    (h : wpAny (model prog w) A (eval iter env) (fun xv s₁ => wpAny (model prog w) A (pyIter xv) (fun it s₂ => LoopS prog w A h₀ env target body Q it s₂) E s₁) E s)
    (hs : ∀ x, foldedSetIterable iter env x = pure x) : wpAny (model prog w) A (exec (.For target iter body [] pos) env) Q E s := for_src h hs
theorem len_lst {prog : Program} {w : World} {A : Around} {E : Value → Shared → Prop} {s : Shared} {l : Addr} {vs : List Value} {n : Nat} {Q : Value → Shared → Prop} (hl : s.heap.IsList l vs.toArray) (hn : vs.length = n) (hf : n < 2 ^ 62) (h : Q (.int (n : Nat) (s.toks + 1)) { s with toks := s.toks + 1 + 1 }) :
    wpAny (model prog w) A (call (.builtin "len") [.ref l]) Q E s := by
  subst hn
  exact Calls.call_len_list hl (by simp; omega) (by simpa using h)
theorem item_lst {prog : Program} {w : World} {A : Around} {E : Value → Shared → Prop} {s : Shared} {value slice : Expr} {l : Addr} {vs : List Value} {k : Int} {u : Tok} {v : Value} {Q : Value → Shared → Prop} (hl : s.heap.IsList l vs.toArray) (hx : vs[k.toNat]? = some v) (h0 : 0 ≤ k) (hf : k < 2 ^ 63) (h : Q v s)
    (hs : subscripted slice false (.ref l) (.int k u) = operate [.ref l, .int k u] (getItem (.ref l) (.int k u)) := by with_unfolding_all rfl) (hg : ∀ r, letTemporaryGo value (.ref l) r = pure () := by intro _; with_unfolding_all rfl) :
    wpAny (model prog w) A (subscriptTail value slice (.ref l) (.int k u)) Q E s := item_list hl h0 hf (by simpa using hx) h hs hg

theorem word30 : True := by
  (k_with "w:exec For Name Call cons nil" => row_timed "z" ((k_here; (k_dflt (refine' for_srcF ?z9F ?_ ?z9s)); (case z9F => k_dflt k_asm); (case z9s => k_dflt (intro _; exact rfl)); k_whole)))
  trivial

theorem word31 : True := by
  (k_with "w:exec For Tuple Call cons nil" => row_timed "z" ((k_here; (k_dflt (refine' for_srcF ?z9F ?_ ?z9s)); (case z9F => k_dflt k_asm); (case z9s => k_dflt (intro _; exact rfl)); k_whole)))
  trivial

theorem word32 : True := by
  (k_with "w:exec For Name Name cons nil" => row_timed "z" ((k_here; (k_dflt (refine' for_srcF ?z9F ?_ ?z9s)); (case z9F => k_dflt k_asm); (case z9s => k_dflt (intro _; exact rfl)); k_whole)))
  trivial

theorem word33 : True := by
  (k_with "w:exec For Name Subscript cons nil" => row_timed "z" ((k_here; (k_dflt (refine' for_srcF ?z9F ?_ ?z9s)); (case z9F => k_dflt k_asm); (case z9s => k_dflt (intro _; exact rfl)); k_whole)))
  trivial

theorem word34 : True := by
  (k_with "w:pyIter ref" => row_timed "z" (((goal_has LoopS); refine stop_ ?_)))
  trivial

theorem word35 : True := by
  (k_with "w:call type:enumerate" => row_timed "z" (((goal_has LoopS); refine stop_ ?_)))
  trivial

theorem word36 : True := by
  (k_with "w:call type:zip" => row_timed "z" (((goal_has LoopS); refine stop_ ?_)))
  trivial

theorem word37 : True := by
  (k_with "w:Stop" => row_timed "z" (fail "stop"))
  trivial

theorem word38 : True := by
  (k_with "w:call builtin:len" => row_timed "z" ((k_here; (with_reducible show wpAny _ _ (call (Value.builtin "len") [Value.ref _]) _ _ _); (k_dflt (refine' len_lst ?z9l ?z9n ?z9f ?_)); (case z9l => k_dflt (first | exact stays_list (Fr.keep (by k_asm)) (by assumption) | exact ⟨_, got_news (by k_asm) (by k_mem), rfl, _, rfl⟩)); (case z9n => with_reducible assumption); (case z9f => omega); k_whole)))
  trivial

theorem word39 : True := by
  (k_with "w:subscriptTail Name Name ref int" => row_timed "z" ((k_here; (with_reducible show wpAny _ _ (subscriptTail _ _ (Value.ref _) (Value.int _ _)) _ _ _); (k_dflt (refine' item_lst ?z9l ?z9x ?z9a ?z9b ?_)); (case z9l => k_dflt (first | exact stays_list (Fr.keep (by k_asm)) (by assumption) | exact ⟨_, got_news (by k_asm) (by k_mem), rfl, _, rfl⟩)); (case z9x => with_reducible assumption); (case z9a => omega); (case z9b => omega); k_whole)))
  trivial

theorem word40 : True := by
  (k_with "w:subscriptTail Name BinOp ref int" => row_timed "z" ((k_here; (with_reducible show wpAny _ _ (subscriptTail _ _ (Value.ref _) (Value.int _ _)) _ _ _); (k_dflt (refine' item_lst ?z9l ?z9x ?z9a ?z9b ?_)); (case z9l => k_dflt (first | exact stays_list (Fr.keep (by k_asm)) (by assumption) | exact ⟨_, got_news (by k_asm) (by k_mem), rfl, _, rfl⟩)); (case z9x => with_reducible assumption); (case z9a => omega); (case z9b => omega); k_whole)))
  trivial

theorem word41 : True := by
  (k_with "w:subscriptTail Name Constant ref int" => row_timed "z" ((k_here; (with_reducible show wpAny _ _ (subscriptTail _ _ (Value.ref _) (Value.int _ _)) _ _ _); (k_dflt (refine' item_lst ?z9l ?z9x ?z9a ?z9b ?_)); (case z9l => k_dflt (first | exact stays_list (Fr.keep (by k_asm)) (by assumption) | exact ⟨_, got_news (by k_asm) (by k_mem), rfl, _, rfl⟩)); (case z9x => with_reducible assumption); (case z9a => omega); (case z9b => omega); k_whole)))
  trivial

theorem word42 : True := by
  (k_with "w:compareOp Eq ref ref" => row_timed "z" ((k_here; (with_reducible show wpAny _ _ (compareOp CmpOp.Eq (Value.ref _) (Value.ref _)) _ _ _); (k_dflt (refine' eq_pair ?z9l ?z9r ?z9u ?_)); (case z9l => k_dflt (first | exact tup_base (by k_asm) (by assumption) | exact tup_news (by k_asm) (by k_mem))); (case z9r => k_dflt (first | exact tup_base (by k_asm) (by assumption) | exact tup_news (by k_asm) (by k_mem))); (case z9u => ((try dsimp only [top, Around.deeper]); omega)); k_whole)))
  trivial

theorem word43 : True := by
  (k_with "w:call builtin:list.append" => row_timed "z" ((k_here; (with_reducible show wpAny _ _ (call (Value.builtin "list.append") [Value.ref _, _]) _ _ _); (k_dflt (refine' append_K ?z9F ?z9N ?z9U ?_ ?z9z)); (case z9F => k_dflt k_asm); (case z9N => k_dflt k_asm); (case z9U => k_upd); (case z9z => (simp only [List.size_toArray]; rw [sizeLine_eq]; omega)); k_whole; (intro z9h' z9F' z9N'); (try simp only [List.push_toArray] at z9N'); (try k_sweep))))
  trivial


noncomputable def stepL (run : List (Int × Int)) (st : List Int × List Int) (at_ : Nat) : List Int × List Int :=
  let far := (run.getD at_ (0, 0)).2
  if far ∉ st.1 then (st.1 ++ [far], st.2)
  else if run.getD (at_ + 1) (0, 0) = (0, far) ∧ far ∉ st.2 then (st.1 ++ [far], st.2 ++ [far]) else st
noncomputable def lateS (run : List (Int × Int)) (i : Nat) : List Int × List Int := ((List.range run.length).reverse.take i).foldl (stepL run) ([], [])
noncomputable def lateF (run : List (Int × Int)) : List Int := (lateS run run.length).1


noncomputable def lateJ (r : Addr) (run : List (Int × Int)) (i : Nat) (m : Str → Option Value) (nx : List (Addr × Obj)) : Prop :=
  ∃ la vl nl tw vt nt, m (Str.ofString "late") = some (.ref la) ∧ m (Str.ofString "twins") = some (.ref tw) ∧ m (Str.ofString "run") = some (.ref r) ∧ nx = [(tw, listOf (List.toArray vt) nt), (la, listOf (List.toArray vl) nl)] ∧ @Ne Nat la tw ∧
    IntsAre vl (lateS run i).1 ∧ IntsAre vt (lateS run i).2 ∧ vl.length ≤ i ∧ vt.length ≤ i


theorem rev_take (n i : Nat) (hi : i < n) : (List.range n).reverse.take (i + 1) = (List.range n).reverse.take i ++ [n - 1 - i] := by
  rw [List.take_add_one]
  congr 1
  have : (List.range n).reverse[i]? = some (n - 1 - i) := by
    rw [List.getElem?_reverse (by simpa using hi)]
    simp only [List.length_range]
    rw [List.getElem?_range (by omega)]
  rw [this]; rfl
theorem lateS_succ {run : List (Int × Int)} {i j : Nat} (hj : j < run.length) (e : j = run.length - 1 - i) (hi : i < run.length) : lateS run (i + 1) = stepL run (lateS run i) j := by
  unfold lateS
  rw [rev_take _ _ hi, List.foldl_append, e]; rfl
theorem any_mem {l : List Int} {x : Int} : (l.any fun y => y == x) = true ↔ x ∈ l := by simp
theorem any_not {l : List Int} {x : Int} : (l.any fun y => y == x) = false ↔ x ∉ l := by
  rw [← any_mem]; cases (l.any fun y => y == x) <;> simp
section
variable {run : List (Int × Int)} {i j : Nat} (hj : j < run.length) (e : j = run.length - 1 - i) (hi : i < run.length)
include e hi
theorem lateS_a (h : ((lateS run i).1.any fun x => x == run[j].2) = false) : lateS run (i + 1) = ((lateS run i).1 ++ [run[j].2], (lateS run i).2) := by
  rw [lateS_succ hj e hi]
  have h1 : run.getD j (0, 0) = run[j] := by simp [List.getD, hj]
  unfold stepL
  simp only [h1]
  rw [if_pos (any_not.mp h)]
theorem lateS_b (hj1 : j + 1 < run.length) (h : ((lateS run i).1.any fun x => x == run[j].2) = true) (h2 : (run[j + 1].1, run[j + 1].2) = (0, run[j].2)) (h3 : ((lateS run i).2.any fun x => x == run[j].2) = false) :
    lateS run (i + 1) = ((lateS run i).1 ++ [run[j].2], (lateS run i).2 ++ [run[j].2]) := by
  rw [lateS_succ hj e hi]
  have h1 : run.getD j (0, 0) = run[j] := by simp [List.getD, hj]
  have h1' : run.getD (j + 1) (0, 0) = run[j + 1] := by simp [List.getD, hj1]
  unfold stepL
  simp only [h1, h1']
  rw [if_neg (by simpa using any_mem.mp h), if_pos ⟨h2, any_not.mp h3⟩]
theorem lateS_c (hj1 : j + 1 < run.length) (h : ((lateS run i).1.any fun x => x == run[j].2) = true) (h2 : ¬ (run[j + 1].1, run[j + 1].2) = (0, run[j].2)) : lateS run (i + 1) = lateS run i := by
  rw [lateS_succ hj e hi]
  have h1 : run.getD j (0, 0) = run[j] := by simp [List.getD, hj]
  have h1' : run.getD (j + 1) (0, 0) = run[j + 1] := by simp [List.getD, hj1]
  unfold stepL
  simp only [h1, h1']
  rw [if_neg (by simpa using any_mem.mp h), if_neg (fun x => h2 x.1)]
theorem lateS_d (hj1 : j + 1 < run.length) (h : ((lateS run i).1.any fun x => x == run[j].2) = true) (h3 : ((lateS run i).2.any fun x => x == run[j].2) = true) : lateS run (i + 1) = lateS run i := by
  rw [lateS_succ hj e hi]
  have h1 : run.getD j (0, 0) = run[j] := by simp [List.getD, hj]
  have h1' : run.getD (j + 1) (0, 0) = run[j + 1] := by simp [List.getD, hj1]
  unfold stepL
  simp only [h1, h1']
  rw [if_neg (by simpa using any_mem.mp h), if_neg (fun x => x.2 (any_mem.mp h3))]
end
theorem late_end {g : Heap} {L r la tw : Addr} {run : List (Int × Int)} {i nl nt : Nat} {vl vt : List Value} {h' : Heap} {m' : Str → Option Value} {news' own : List (Addr × Obj)} {s₁ : Shared} {tk : Nat} (F : Fr g L h' m') (N : News g L h' news')
    (e1 : m' (Str.ofString "late") = some (.ref la)) (e2 : m' (Str.ofString "twins") = some (.ref tw)) (e3 : m' (Str.ofString "run") = some (.ref r)) (h1 : (tw, listOf (List.toArray vt) nt) ∈ news') (h2 : (la, listOf (List.toArray vl) nl) ∈ news') (ho : ∀ p ∈ own, p ∈ news')
    (hoff : OwnOff own [tw, la]) (hne : @Ne Nat la tw) (hvl : IntsAre vl (lateS run (i + 1)).1) (hvt : IntsAre vt (lateS run (i + 1)).2) (hl1 : vl.length ≤ i + 1) (hl2 : vt.length ≤ i + 1) : SrcTurn g L (lateJ r run (i + 1)) own s₁ .next { s₁ with heap := h', toks := tk } :=
  src_next F N ⟨la, vl, nl, tw, vt, nt, e1, e2, e3, rfl, hne, hvl, hvt, hl1, hl2⟩ hoff (List.forall_mem_cons.mpr ⟨h1, List.forall_mem_cons.mpr ⟨h2, List.forall_mem_nil _⟩⟩) ho
theorem snoc_ints {vs : List Value} {ns : List Int} (h : IntsAre vs ns) (x : Int) (t : Tok) : IntsAre (vs ++ [.int x t]) (ns ++ [x]) := IntsAre.append h (IntsAre.cons _ _ IntsAre.nil)

set_option maxHeartbeats 8000000 in
theorem late_does (w : World) (r : Addr) (run : List (Int × Int)) (hn : run.length < 1000) :
    Does w 264 [.ref r] 2 [] (fun h => LstAt PairAt h r run) (fun v news _ => ∃ l vs n, v = .ref l ∧ (l, listOf vs.toArray n) ∈ news ∧ IntsAre vs (lateF run)) := by
  refine' does_of [(Str.ofString "run", .ref r)] ?ho ?hcd ?hbind ?hloc ?c2 ?c3 ?c4 ?c5 ?cP ?body
  case ho => k_is
  case hcd => k_is
  case hbind => exact fun _ _ => BindsTo.of_eq rfl
  case hloc => exact locs rfl
  case c2 => exact rfl
  case c3 => exact rfl
  case c4 => exact rfl
  case c5 => decide
  case cP => exact fun _ _ g h => h.keeps (fun _ _ _ _ k x => x.keeps k) (stays_of_gsub g)
  case body =>
    intro mg mb p loose mean base env outer dp un gd s g' L' h' tk0 cx hdp hun hp B' X' T' G' F' N'
    obtain ⟨rvs, hrl, hra⟩ := hp
    have hlen := hra.1
    try k_unmd
    k_fold
    k_steps
    refine stop_on ?_
    refine' src_range (n := run.length) rfl (by assumption) ?small ?size (fun it s₂ S => loop_of (lateJ r run) S (by assumption) (news_sub (by assumption) ?sub) ?h0 (fun _ h => nomatch h) ?turn ?done)
    case h0 => refine' ⟨_, _, 0, _, _, 0, rfl, rfl, rfl, rfl, ?_, IntsAre.nil, IntsAre.nil, Nat.le_refl _, Nat.le_refl _⟩; (refine neN ?_; omega)
    case small => exact small_down (by omega) (by omega) (by omega) (by omega)
    case size => rw [rangeSize_downNat]; omega
    case sub => k_allIn
    case turn =>
      intro i v m₁ nx h tk own hi hP hoff hJ F₁ N₁
      refine (let G : Prop := _; (?_ : G))
      obtain ⟨t, rfl⟩ := hP
      refine ex6 hJ ?_
      intro la vl nl tw vt nt z9p
      clear hJ
      refine and9 z9p ?_
      clear z9p
      intro e1 e2 e3 z9e3 hne hvl hvt hl1 hl2
      subst z9e3
      have F₂ := fr_lit [(Str.ofString "late", .ref la), (Str.ofString "twins", .ref tw), (Str.ofString "run", .ref r)] (List.forall_mem_cons.mpr ⟨e1, List.forall_mem_cons.mpr ⟨e2, List.forall_mem_cons.mpr ⟨e3, List.forall_mem_nil _⟩⟩⟩) F₁
      clear F₁
      dsimp only [kstB] at F₂
      simp only [List.map_cons, List.map_nil, List.cons_append, List.nil_append] at hoff; (try dsimp only [List.map_cons, List.map_nil, List.cons_append, List.nil_append] at N₁)
      obtain ⟨j, hj⟩ : ∃ j : Nat, j = run.length - 1 - i := ⟨_, rfl⟩
      have hk : ((run.length : Int) - 1 + (i : Int) * -1) = (j : Int) := by omega
      have hjn : j < run.length := by omega
      k_unmd
      k_unfold
      rw [hk]
      obtain ⟨v1, hv1, a1, u1, u2, rfl, ht1⟩ := hra.at (List.getElem?_eq_getElem hjn)
      have hx1 : rvs[((j : Int)).toNat]? = some (.ref a1) := hv1
      by_cases hj1 : j + 1 < run.length
      · obtain ⟨v2, hv2, a2, u3, u4, rfl, ht2⟩ := hra.at (List.getElem?_eq_getElem hj1)
        have hx2 : rvs[((j : Int) + 1).toNat]? = some (.ref a2) := hv2
        try k_unmd
        k_fold
        k_steps
        all_goals (try simp only [List.push_toArray] at *)
        all_goals (refine' late_end (by assumption) (by assumption) rfl rfl rfl ?_ ?_ ?_ hoff hne ?_ ?_ ?_ ?_)
        all_goals (try ((with_reducible show _ ∈ (_ : List _)); k_mem))
        all_goals (try (intro p hp; k_ownIn))
        all_goals (try first
          | (rw [lateS_a hjn hj hi (by assumption)]; first | exact snoc_ints hvl _ _ | exact hvt)
          | (rw [lateS_b hjn hj hi hj1 (by assumption) (by assumption) (by assumption)]; first | exact snoc_ints hvl _ _ | exact snoc_ints hvt _ _)
          | (rw [lateS_c hjn hj hi hj1 (by assumption) (by assumption)]; first | exact hvl | exact hvt)
          | (rw [lateS_d hjn hj hi hj1 (by assumption) (by assumption)]; first | exact hvl | exact hvt))
        all_goals (try ((with_reducible show _ ≤ _); (try simp only [List.length_append, List.length_cons, List.length_nil]); omega))
      · have hi0 : i = 0 := by omega
        have hv0 : (lateS run i).1 = [] := by rw [hi0]; rfl
        try k_unmd
        k_fold
        k_steps
        all_goals (try (exfalso; simp only [hv0, List.any_nil, Bool.false_eq_true] at *; done))
        all_goals (try simp only [List.push_toArray] at *)
        all_goals (refine' late_end (by assumption) (by assumption) rfl rfl rfl ?_ ?_ ?_ hoff hne ?_ ?_ ?_ ?_)
        all_goals (try ((with_reducible show _ ∈ (_ : List _)); k_mem))
        all_goals (try (intro p hp; k_ownIn))
        all_goals (try first
          | (rw [lateS_a hjn hj hi (by assumption)]; first | exact snoc_ints hvl _ _ | exact hvt)
          | (rw [lateS_b hjn hj hi (by omega) (by assumption) (by assumption) (by assumption)]; first | exact snoc_ints hvl _ _ | exact snoc_ints hvt _ _)
          | (rw [lateS_c hjn hj hi (by omega) (by assumption) (by assumption)]; first | exact hvl | exact hvt)
          | (rw [lateS_d hjn hj hi (by omega) (by assumption) (by assumption)]; first | exact hvl | exact hvt))
        all_goals (try ((with_reducible show _ ≤ _); (try simp only [List.length_append, List.length_cons, List.length_nil]); omega))
    case done =>
      intro h' tk m' nx hJ F₁ N₁
      refine (let G : Prop := _; (?_ : G))
      refine ex6 hJ ?_
      intro la vl nl tw vt nt z9p
      clear hJ
      refine and9 z9p ?_
      clear z9p
      intro e1 e2 e3 z9e3 hne hvl hvt hl1 hl2
      subst z9e3
      have F₂ := fr_lit [(Str.ofString "late", .ref la), (Str.ofString "twins", .ref tw), (Str.ofString "run", .ref r)] (List.forall_mem_cons.mpr ⟨e1, List.forall_mem_cons.mpr ⟨e2, List.forall_mem_cons.mpr ⟨e3, List.forall_mem_nil _⟩⟩⟩) F₁
      clear F₁
      dsimp only [kstB] at F₂
      k_unmd
      k_unfold
      k_steps
      (try dsimp only); (try k_unfold)
      refine leaf_ret (by assumption) (by assumption) ?_
      exact ⟨la, vl, nl, rfl, by k_mem, hvl⟩

theorem word44 : True := by
  (k_with "w:call ref" => row_timed "z" ((k_here; (with_reducible show wpAny _ _ (call (Value.ref 264) _) _ _ _); (k_dflt (refine' does_use0 (late_does _ _ _ ?z9hn) ?z9cx ?z9F ?z9N ?z9hp ?z9hdp ?z9hun ?_)); (case z9cx => k_dflt k_asm); (case z9F => k_dflt k_asm); (case z9N => k_dflt k_asm); (case z9hp => k_dflt (assumption)); (case z9hdp => ((try dsimp only [top]); omega)); (case z9hun => ((try dsimp only [top]); omega)); (case z9hn => omega); k_whole; (k_dflt (rintro z9v' z9new' z9h' z9tk' z9F' z9N' z9hnew' z9st' z9hpost'; refine (let z9G' : Prop := _; (?_ : z9G')); obtain ⟨z9l', z9vs', z9n', z9e', z9hm', z9hi'⟩ := z9hpost')); subst z9e'; (replace z9N' := (z9hnew' _ z9hm').news z9N'); (have z9hne' := (z9hnew' _ z9hm').ne); (try dsimp only [AllNe] at z9hne'); clear z9hnew' z9hm' z9st'; (try k_unmd); (try k_unfold); (try dsimp only); (try k_fold))))
  trivial

section
variable {prog : Program} {w : World} {A : Around} {E : Value → Shared → Prop} {s : Shared} {h₀ h : Heap} {L D : Addr} {m : Str → Option Value} {news news' : List (Addr × Obj)}
theorem ints_at {vs : List Value} {ns : List Int} (h : IntsAre vs ns) {i : Nat} {v : Value} (e : vs[i]? = some v) : ∃ x t, v = .int x t ∧ ns[i]? = some x := by
  induction h generalizing i with
  | nil => simp at e
  | cons n t h ih =>
    cases i with
    | zero => simp at e; exact ⟨n, t, e.symm, rfl⟩
    | succ i => simp at e; obtain ⟨x, t, h1, h2⟩ := ih e; exact ⟨x, t, h1, by simpa using h2⟩
theorem ints_of {vs : List Value} {ns : List Int} (h : IntsAre vs ns) {i : Nat} {x : Int} (e : ns[i]? = some x) : ∃ t, vs[i]? = some (.int x t) := by
  have hi : i < ns.length := (List.getElem?_eq_some_iff.mp e).1
  have hv : vs[i]? = some (vs[i]'(h.length ▸ hi)) := List.getElem?_eq_getElem _
  obtain ⟨y, t, h1, h2⟩ := ints_at h hv
  rw [e] at h2; cases h2
  exact ⟨t, by rw [hv, h1]⟩
theorem ints_erase {vs : List Value} {ns : List Int} (h : IntsAre vs ns) (k : Nat) : IntsAre (vs.eraseIdx k) (ns.eraseIdx k) := by
  induction h generalizing k with
  | nil => simpa using IntsAre.nil
  | cons n t h ih =>
    cases k with
    | zero => exact h
    | succ k => exact IntsAre.cons n t (ih k)
theorem index_ints {l : Addr} {vs : List Value} {ns : List Int} {k : Int} {t : Tok} {Q : Value → Shared → Prop} (hl : s.heap.IsList l vs.toArray) (hi : IntsAre vs ns)
    (hsz : ns.length < 2 ^ 62) (hk : k ∈ ns) (h : Q (.int (ns.idxOf k : Nat) s.toks) { s with toks := s.toks + 1 }) :
    wpAny (model prog w) A (call (.builtin "list.index") [.ref l, .int k t]) Q E s := by
  obtain ⟨⟨cls, dd, data, sl⟩, ho, hc, n, hd⟩ := id hl
  simp only at hc hd
  subst hc hd
  have hlen := hi.length
  have hj : ns.idxOf k < ns.length := List.idxOf_lt_length_iff.mpr hk
  refine call_meets PySem.F.slot_list_index ⟨_, ho, rfl⟩ PySem.F.entry_list_index (PySem.F.args_list_index_2 _ _)
    (SeqAt.list_indexAt l vs.toArray n dd sl (.int k t) (isInt k) (ns.idxOf k) (by simpa [hlen] using hj) (by omega) ?_ ?_) ⟨ho, fun y hy => (eq_isInt k t hi y (by simpa using hy)).at _ _, h⟩
  · show isInt k vs[ns.idxOf k] = true
    rw [isInt_at k hi _ (by omega) hj]
    simpa using List.getElem_idxOf hj
  · intro j hjs hlt
    show isInt k vs[j] = false
    rw [isInt_at k hi j (by simpa using hjs) (by omega)]
    exact ne_of_lt_idxOf hlt _
theorem erase_if (vs : List Value) (k : Nat) (hk : k < vs.length) : vs.toArray.eraseIdxIfInBounds k = (vs.eraseIdx k).toArray := by
  unfold Array.eraseIdxIfInBounds
  rw [dif_pos (by simpa using hk)]
  apply Array.toList_inj.mp
  rw [Array.toList_eraseIdx]
theorem pop_ints {n : Nat} {vs : List Value} {ns : List Int} {i : Int} {u : Tok} {Q : Value → Shared → Prop} (F : Fr h₀ L s.heap m) (N : News h₀ L s.heap news) (U : Upd D (listOf vs.toArray n) (listOf (vs.eraseIdx i.toNat).toArray (n + 1)) news news')
    (hi : IntsAre vs ns) (h0 : 0 ≤ i) (h1 : i < (ns.length : Int)) (hz : ns.length ≤ 16777216)
    (h : ∀ t h', Fr h₀ L h' m → News h₀ L h' news' → IntsAre (vs.eraseIdx i.toNat) (ns.eraseIdx i.toNat) → Q (.int (ns.getD i.toNat 0) t) { s with heap := h' }) : wpAny (model prog w) A (call (.builtin "list.pop") [.ref D, .int i u]) Q E s := by
  obtain ⟨pre, post, rfl, rfl, a, b⟩ := U.split
  have z := N (D, listOf vs.toArray n) (List.mem_append.mpr (.inr (.head _)))
  have hlen := hi.length
  have hk : i.toNat < ns.length := by omega
  obtain ⟨t, hy⟩ := ints_of hi (List.getElem?_eq_getElem hk)
  refine call_meets PySem.F.slot_list_pop ⟨_, z.1, rfl⟩ PySem.F.entry_list_pop (PySem.F.args_list_pop_2 _ _)
    (PySem.MeetsSeq.list_pop_at D vs.toArray n i u i.toNat _ (fitsIndex_of h0 (by omega)) (PyProof.Rows.seqIndex_at h0 (by simpa [hlen] using h1)) (by simpa using hy) (by simp [hlen]; rw [sizeLine_eq]; exact hz)) ⟨z.1, ?_⟩
  have e : (Value.int ns[i.toNat] t) = .int (ns.getD i.toNat 0) t := by simp [List.getD, hk]
  rw [e]
  refine h t _ (F.change (Heap.SameBut.update ..) z.2.1 z.2.2) (kl_turn _ N a b (erase_if _ _ (by omega)) ?_) (ints_erase hi _)
  rw [List.size_toArray, List.size_toArray, List.length_eraseIdx]
  rw [if_pos (by omega)]; omega
end
theorem erase_idx (ns : List Int) (x : Int) : ns.eraseIdx (ns.idxOf x) = ns.erase x := (List.erase_eq_eraseIdx_of_idxOf (i := ns.idxOf x) rfl).symm
theorem end_next {h₀ : Heap} {L : Addr} {J : (Str → Option Value) → List (Addr × Obj) → Prop} {m' : Str → Option Value} {own news' : List (Addr × Obj)} {s₁ : Shared} {h' : Heap} {tk : Nat} (nx : List (Addr × Obj)) (F : Fr h₀ L h' m') (N : News h₀ L h' news')
    (hn : ∀ p ∈ nx, p ∈ news') (ho : ∀ p ∈ own, p ∈ news') (ha : OwnOff own (nx.map (·.1))) (hj : J m' nx) : SrcTurn h₀ L J own s₁ .next { s₁ with heap := h', toks := tk } := src_next F N hj ha hn ho
theorem end_cont {h₀ : Heap} {L : Addr} {J : (Str → Option Value) → List (Addr × Obj) → Prop} {m' : Str → Option Value} {own news' : List (Addr × Obj)} {s₁ : Shared} {h' : Heap} {tk : Nat} (nx : List (Addr × Obj)) (F : Fr h₀ L h' m') (N : News h₀ L h' news')
    (hn : ∀ p ∈ nx, p ∈ news') (ho : ∀ p ∈ own, p ∈ news') (ha : OwnOff own (nx.map (·.1))) (hj : J m' nx) : SrcTurn h₀ L J own s₁ .cont { s₁ with heap := h', toks := tk } := src_cont F N hj ha hn ho

theorem word45 : True := by
  (k_with "w:call builtin:list.index" => row_timed "z" ((k_here; (with_reducible show wpAny _ _ (call (Value.builtin "list.index") [Value.ref _, Value.int _ _]) _ _ _); (k_dflt (refine' index_ints ?z9l ?z9i ?z9z ?z9m ?_)); (case z9l => k_dflt (first | exact stays_list (Fr.keep (by k_asm)) (by assumption) | exact ⟨_, got_news (by k_asm) (by k_mem), rfl, _, rfl⟩)); (case z9i => with_reducible assumption); (case z9z => omega); (case z9m => first | exact any_mem.mp (by assumption) | assumption); k_whole)))
  trivial

theorem word46 : True := by
  (k_with "w:call builtin:list.pop" => row_timed "z" ((k_here; (with_reducible show wpAny _ _ (call (Value.builtin "list.pop") [Value.ref _, Value.int _ _]) _ _ _); (k_dflt (refine' pop_ints ?z9F ?z9N ?z9U ?z9i ?z9a ?z9b ?z9z ?_)); (case z9F => k_dflt k_asm); (case z9N => k_dflt k_asm); (case z9U => k_upd); (case z9i => with_reducible assumption); (case z9a => omega); (case z9b => first | omega | (have z9hx' := List.idxOf_lt_length_iff.mpr (any_mem.mp (by assumption)); omega)); (case z9z => omega); k_whole; (intro z9t' z9h' z9F' z9N' z9I'); (try k_sweep))))
  trivial


noncomputable def rowOf (bs ls : List Int) (room : Nat) : List Int := (ls ++ ls.foldl (fun r f => r.erase f) bs).take room
noncomputable def rowJ (r : Addr) (rm : Value) (bs ls : List Int) (i : Nat) (m : Str → Option Value) (nx : List (Addr × Obj)) : Prop :=
  ∃ ra vs n, m (Str.ofString "rest") = some (.ref ra) ∧ m (Str.ofString "late") = some (.ref r) ∧ m (Str.ofString "room") = some rm ∧ nx = [(ra, listOf (List.toArray vs) n)] ∧
    IntsAre vs ((ls.take i).foldl (fun r f => r.erase f) bs)
theorem fold_le (bs ls : List Int) : (ls.foldl (fun r f => r.erase f) bs).length ≤ bs.length := by
  induction ls generalizing bs with
  | nil => exact Nat.le_refl _
  | cons a ls ih => exact Nat.le_trans (ih _) List.length_erase_le
theorem fold_snoc {bs ls : List Int} {i : Nat} {x : Int} (h : ls[i]? = some x) : (ls.take (i + 1)).foldl (fun r f => r.erase f) bs = ((ls.take i).foldl (fun r f => r.erase f) bs).erase x := by
  rw [List.take_add_one, h]; simp

set_option maxHeartbeats 8000000 in
theorem lrow_does (w : World) (b l : Addr) (bvs lvs : List Value) (bs ls : List Int) (room : Nat) (tr : Tok) (hb : IntsAre bvs bs) (hl : IntsAre lvs ls) (h1 : bs.length < 1000) (h2 : ls.length < 1000) (h3 : room < 1000) :
    Does w 271 [.ref b, .ref l, .int (room : Int) tr] 2 [] (fun h => h.IsList b bvs.toArray ∧ h.IsList l lvs.toArray) (fun v news _ => ∃ l vs n, v = .ref l ∧ (l, listOf vs.toArray n) ∈ news ∧ IntsAre vs (rowOf bs ls room)) := by
  refine' does_of [(Str.ofString "begun", .ref b), (Str.ofString "late", .ref l), (Str.ofString "room", .int (room : Int) tr)] ?ho ?hcd ?hbind ?hloc ?c2 ?c3 ?c4 ?c5 ?cP ?body
  case ho => k_is
  case hcd => k_is
  case hbind => exact fun _ _ => BindsTo.of_eq rfl
  case hloc => exact locs rfl
  case c2 => exact rfl
  case c3 => exact rfl
  case c4 => exact rfl
  case c5 => decide
  case cP => exact fun _ _ g h => ⟨is_list_but g h.1 (by simp), is_list_but g h.2 (by simp)⟩
  case body =>
    intro mg mb p loose mean base env outer dp un gd s g' L' h' tk0 cx hdp hun hp B' X' T' G' F' N'
    obtain ⟨hbl, hll⟩ := hp
    try k_unmd
    k_fold
    k_steps
    refine stop_on ?_
    have hn1 := hl.length
    have hn2 := hb.length
    refine' src_list (items := lvs.toArray) rfl ?lst (fun it s₂ S => loop_of (nx₀ := [(_, listOf bvs.toArray _)]) (rowJ l (.int (room : Int) tr) bs ls) S (by assumption) (news_sub (by assumption) ?sub) ?h0 ?hrd ?turn ?done)
    case lst => exact stays_list (Fr.keep (by k_asm)) (by assumption)
    case sub => k_allIn
    case h0 => exact ⟨_, bvs, _, rfl, rfl, rfl, rfl, hb⟩
    case hrd => exact List.forall_mem_cons.mpr ⟨.inl (by obtain ⟨o, e, _⟩ := hll; exact ⟨o, e⟩), List.forall_mem_nil _⟩
    case turn =>
      intro i v m₁ nx h tk own hi hP hoff hJ F₁ N₁
      refine (let G : Prop := _; (?_ : G))
      obtain ⟨x, t, rfl, hx⟩ := ints_at hl (by simpa using hP)
      obtain ⟨ra, vs, n, e1, e2, e3, rfl, hvs⟩ := hJ
      have hvl := hvs.length
      have hle := fold_le bs (ls.take i)
      have F₂ := fr_lit [(Str.ofString "rest", .ref ra), (Str.ofString "late", .ref l), (Str.ofString "room", .int (room : Int) tr)] (List.forall_mem_cons.mpr ⟨e1, List.forall_mem_cons.mpr ⟨e2, List.forall_mem_cons.mpr ⟨e3, List.forall_mem_nil _⟩⟩⟩) F₁
      clear F₁
      dsimp only [kstB] at F₂
      simp only [List.map_cons, List.map_nil, List.cons_append, List.nil_append] at hoff; (try dsimp only [List.map_cons, List.map_nil, List.cons_append, List.nil_append] at N₁)
      k_unmd
      k_unfold
      try k_unmd
      k_fold
      k_steps
      all_goals (try dsimp only)
      · refine end_next [(ra, listOf (List.toArray _) _)] (by assumption) (by assumption) (by k_allIn) (by intro p hp; k_ownIn) hoff ⟨ra, _, _, rfl, rfl, rfl, rfl, ?_⟩
        rw [fold_snoc hx, ← erase_idx]
        assumption
      · refine end_next [(ra, listOf (List.toArray _) _)] (by assumption) (by assumption) (by k_allIn) (by intro p hp; k_ownIn) hoff ⟨ra, _, _, rfl, rfl, rfl, rfl, ?_⟩
        rw [fold_snoc hx, List.erase_of_not_mem (any_not.mp (by assumption))]
        assumption
    case done =>
      intro h' tk m' nx hJ F₁ N₁
      refine (let G : Prop := _; (?_ : G))
      obtain ⟨ra, vs, n, e1, e2, e3, rfl, hvs⟩ := hJ
      have hvl := hvs.length
      have hle := fold_le bs (ls.take lvs.toArray.size)
      have F₂ := fr_lit [(Str.ofString "rest", .ref ra), (Str.ofString "late", .ref l), (Str.ofString "room", .int (room : Int) tr)] (List.forall_mem_cons.mpr ⟨e1, List.forall_mem_cons.mpr ⟨e2, List.forall_mem_cons.mpr ⟨e3, List.forall_mem_nil _⟩⟩⟩) F₁
      clear F₁
      dsimp only [kstB] at F₂
      k_unmd
      k_unfold
      k_steps
      (try dsimp only); (try k_unfold)
      have ht : ls.take lvs.toArray.size = ls := List.take_of_length_le (by simp [hn1])
      refine leaf_ret (by assumption) (by assumption) ?_
      rename IntsAre _ (List.take _ _) => hz
      rw [ht] at hz
      exact ⟨_, _, _, rfl, by k_mem, hz⟩

theorem word47 : True := by
  (k_with "w:call ref" => row_timed "z" ((k_here; (with_reducible show wpAny _ _ (call (Value.ref 271) _) _ _ _); (k_dflt (refine' does_use0 (lrow_does _ _ _ _ _ _ _ 3 _ ?z9hb ?z9hl ?z9h1 ?z9h2 ?z9h3) ?z9cx ?z9F ?z9N ?z9hp ?z9hdp ?z9hun ?_)); (case z9cx => k_dflt k_asm); (case z9F => k_dflt k_asm); (case z9N => k_dflt k_asm); (case z9hp => k_dflt (exact ⟨by (first | exact stays_list (Fr.keep (by k_asm)) (by assumption) | exact ⟨_, got_news (by k_asm) (by k_mem), rfl, _, rfl⟩), by (first | exact stays_list (Fr.keep (by k_asm)) (by assumption) | exact ⟨_, got_news (by k_asm) (by k_mem), rfl, _, rfl⟩)⟩)); (case z9hdp => ((try dsimp only [top]); omega)); (case z9hun => ((try dsimp only [top]); omega)); (case z9hb => with_reducible assumption); (case z9hl => with_reducible assumption); (case z9h1 => first | omega | (simp only [List.length_cons, List.length_nil]; omega)); (case z9h2 => omega); (case z9h3 => omega); k_whole; (k_dflt (rintro z9v' z9new' z9h' z9tk' z9F' z9N' z9hnew' z9st' z9hpost'; refine (let z9G' : Prop := _; (?_ : z9G')); obtain ⟨z9l', z9vs', z9n', z9e', z9hm', z9hi'⟩ := z9hpost')); subst z9e'; (replace z9N' := (z9hnew' _ z9hm').news z9N'); (have z9hne' := (z9hnew' _ z9hm').ne); (try dsimp only [AllNe] at z9hne'); clear z9hnew' z9hm' z9st'; (try k_unmd); (try k_unfold); (try dsimp only); (try k_fold))))
  trivial

theorem word48 : True := by
  (k_with "w:call ref" => row_timed "z" ((k_here; (with_reducible show wpAny _ _ (call (Value.ref 271) _) _ _ _); (k_dflt (refine' does_use0 (lrow_does _ _ _ _ _ _ _ 4 _ ?z9hb ?z9hl ?z9h1 ?z9h2 ?z9h3) ?z9cx ?z9F ?z9N ?z9hp ?z9hdp ?z9hun ?_)); (case z9cx => k_dflt k_asm); (case z9F => k_dflt k_asm); (case z9N => k_dflt k_asm); (case z9hp => k_dflt (exact ⟨by (first | exact stays_list (Fr.keep (by k_asm)) (by assumption) | exact ⟨_, got_news (by k_asm) (by k_mem), rfl, _, rfl⟩), by (first | exact stays_list (Fr.keep (by k_asm)) (by assumption) | exact ⟨_, got_news (by k_asm) (by k_mem), rfl, _, rfl⟩)⟩)); (case z9hdp => ((try dsimp only [top]); omega)); (case z9hun => ((try dsimp only [top]); omega)); (case z9hb => with_reducible assumption); (case z9hl => with_reducible assumption); (case z9h1 => first | omega | (simp only [List.length_cons, List.length_nil]; omega)); (case z9h2 => omega); (case z9h3 => omega); k_whole; (k_dflt (rintro z9v' z9new' z9h' z9tk' z9F' z9N' z9hnew' z9st' z9hpost'; refine (let z9G' : Prop := _; (?_ : z9G')); obtain ⟨z9l', z9vs', z9n', z9e', z9hm', z9hi'⟩ := z9hpost')); subst z9e'; (replace z9N' := (z9hnew' _ z9hm').news z9N'); (have z9hne' := (z9hnew' _ z9hm').ne); (try dsimp only [AllNe] at z9hne'); clear z9hnew' z9hm' z9st'; (try k_unmd); (try k_unfold); (try dsimp only); (try k_fold))))
  trivial

theorem word49 : True := by
  (k_with "w:exec While Compare" => row_timed "z" ((refine whl_start 1 ?_)))
  trivial

theorem word50 : True := by
  (k_with "w:WhlIf" => row_timed "z" ((refine WhlIf.no (decide_eq_false (by omega)) ?_)))
  trivial

set_option maxHeartbeats 8000000 in
theorem cut_does (w : World) (n : Int) (t : Tok) (h2 : 2 ≤ n) (hn : n ≤ 273) :
    Does w 225 [.int n t] 2 [] (fun _ => True) (fun v news _ => ∃ l t k, v = .ref l ∧ (l, listOf [Value.int n t].toArray k) ∈ news) := by
  refine' does_of [(Str.ofString "length", .int n t)] ?ho ?hcd ?hbind ?hloc ?c2 ?c3 ?c4 ?c5 ?cP ?body
  case ho => k_is
  case hcd => k_is
  case hbind => exact fun _ _ => BindsTo.of_eq rfl
  case hloc => exact locs rfl
  case c2 => exact rfl
  case c3 => exact rfl
  case c4 => exact rfl
  case c5 => decide
  case cP => exact fun _ _ _ h => h
  case body =>
    intro mg mb p loose mean base env outer dp un gd s g' L' h' tk0 cx hdp hun hp B' X' T' G' F' N'
    try k_unmd
    k_fold
    k_steps
    all_goals (try dsimp only)
    all_goals (try k_unfold)
    all_goals (refine leaf_ret (by assumption) (by assumption) ?_)
    all_goals (exact ⟨_, _, _, rfl, by k_mem⟩)


theorem valueAt_stored (kvs : List (Int × Value)) (k : Int) (v : Value) (x : Int) : valueAt (stored kvs k v) x = if x = k then some v else valueAt kvs x := by
  have hmap : ∀ l : List (Int × Value), valueAt (l.map fun kv => if kv.1 = k then (kv.1, v) else kv) x = if x = k then (if l.any (fun kv => kv.1 = k) then some v else none) else valueAt l x := by
    intro l
    induction l with
    | nil => simp [valueAt]
    | cons a l ih =>
      unfold valueAt at ih ⊢
      simp only [List.map_cons, List.find?_cons, List.any_cons]
      by_cases h1 : a.1 = k <;> by_cases h2 : x = k
      · simp [h1, h2]
      · have : ¬ k = x := fun e => h2 e.symm
        have h3 : ¬ a.1 = x := by rw [h1]; exact this
        simp only [h1, if_true]
        simp only [h2, if_false] at ih ⊢
        simp only [this, decide_false, h1]
        simpa using ih
      · have h3 : ¬ a.1 = x := by rw [h2]; exact h1
        simp only [h1, h3, if_false, decide_false, Bool.false_or] at ih ⊢
        exact ih
      · simp only [h1, h2, if_false] at ih ⊢
        by_cases h3 : a.1 = x
        · simp [h3]
        · simp only [h3, decide_false]; exact ih
  unfold stored
  split
  · rename_i h; rw [hmap, h]; simp
  · rename_i h
    have hn : ∀ p ∈ kvs, ¬ p.1 = k := fun p hp e => h (List.any_eq_true.mpr ⟨p, hp, by simpa using e⟩)
    unfold valueAt
    rw [List.find?_append]
    by_cases h2 : x = k
    · subst h2
      have : kvs.find? (fun kv => kv.1 = x) = none := List.find?_eq_none.mpr (fun p hp => by simpa using hn p hp)
      simp [this]
    · have h3 : ¬ k = x := fun e => h2 e.symm
      simp [h2, h3]

theorem word51 : True := by
  (k_with "w:getMethod ref" => row_timed "z" ((k_here; (with_reducible show wpAny _ _ (getMethod (Value.ref _) (Str.ofString "index") _) _ _ _); (with_unfolding_all refine' getMethod_list_of PySem.F.slot_list_index PySem.F.type_list_index ?z9a ?z9b ?_; (case z9a => is_list); (case z9b => exact ⟨_, got_base (by k_asm) (by assumption), rfl⟩); k_whole))))
  trivial

theorem word52 : True := by
  (k_with "w:compareOp NotIn int ref" => row_timed "z" ((k_here; k_dflt (first | refine kdg_notin (knd := PySem.intKind _ _) (by k_asm) (by k_mem) (by k_asm) (by k_asm) (intKind_is _ _ _ _) true (by assumption) ?_ | refine kdg_notin (knd := PySem.intKind _ _) (by k_asm) (by k_mem) (by k_asm) (by k_asm) (intKind_is _ _ _ _) false (by assumption) ?_); (try dsimp only [Bool.not_true, Bool.not_false]))))
  trivial

theorem word53 : True := by
  (k_with "w:setItem ref int" => row_timed "z" ((k_here; k_dflt (refine' kda_set (knd := PySem.intKind _ _) ?z9F ?z9N ?z9U ?z9d (intKind_is _ _ _ _) ?z9z ?_; (case z9F => k_asm); (case z9N => k_asm); (case z9U => k_updF); (case z9d => k_asm); (case z9z => (rw [sizeLine_eq]; omega))); intro z9h' z9o' z9F' z9N' z9hd'; (try dsimp only at z9N'))))
  trivial

theorem word54 : True := by
  (k_with "w:subscriptTail Name Name ref int" => row_timed "z" ((k_here; k_dflt (refine kda_item (knd := PySem.intKind _ _) (by k_asm) (by k_mem) (by k_asm) (intKind_is _ _ _ _) (by first | assumption | (rw [valueAt_stored, if_pos rfl])) ?_))))
  trivial

theorem word55 : True := by
  (k_with "w:subscriptTail Name Call ref int" => row_timed "z" ((k_here; (with_reducible show wpAny _ _ (subscriptTail _ _ (Value.ref _) (Value.int _ _)) _ _ _); (with_unfolding_all refine' item_list_ints ?z9k1 ?z9k2 ?z9k3 ?z9k4 ?z9k5 ?_; (case z9k1 => is_list); (case z9k2 => l_ints); (case z9k3 => omega); (case z9k4 => first | omega | (have hx4 := List.idxOf_lt_length_iff.mpr (by assumption); omega)); (case z9k5 => first | omega | (have hx4 := List.idxOf_lt_length_iff.mpr (by assumption); omega)); k_whole); intro _)))
  trivial


theorem isTup_of {h : Heap} {T : Addr} {items : List Value} (x : h.IsTuple T items.toArray) : IsTup h T items.toArray := x
noncomputable def putM (mn : Int → Option Int) (k v : Int) : Int → Option Int := fun x => if x = k then some v else mn x
noncomputable def heardStep (bs os : List Int) (st : (Int → Option Int) × List Int) (q : List Int × (Int × Int)) : (Int → Option Int) × List Int :=
  let far := q.2.2
  let mn := if far ∉ q.1 then putM st.1 far far else if st.1 far = none then putM st.1 far (os.getD (bs.idxOf far) 0) else st.1
  (mn, st.2 ++ [(mn far).getD 0])
noncomputable def heardS (bs os : List Int) (run : List (Int × Int)) (rows : List (List Int)) (i : Nat) : (Int → Option Int) × List Int := ((rows.zip run).take i).foldl (heardStep bs os) (fun _ => none, [])
noncomputable def heardF (bs os : List Int) (run : List (Int × Int)) (rows : List (List Int)) : List Int := (heardS bs os run rows run.length).2
noncomputable def HeardOk (bs os : List Int) (run : List (Int × Int)) (rows : List (List Int)) : Prop :=
  os.length = bs.length ∧ run.length ≤ rows.length ∧ ∀ i row p, rows[i]? = some row → run[i]? = some p → p.2 ∈ row → (heardS bs os run rows i).1 p.2 = none → p.2 ∈ bs
noncomputable def MeantAt (kvs : List (Int × Value)) (mn : Int → Option Int) : Prop := ∀ k, match mn k with | none => valueAt kvs k = none | some x => ∃ t, valueAt kvs k = some (.int x t)
theorem MeantAt.put {kvs : List (Int × Value)} {mn : Int → Option Int} (h : MeantAt kvs mn) (k x : Int) (t : Tok) : MeantAt (stored kvs k (.int x t)) (putM mn k x) := by
  intro y
  unfold putM
  rw [valueAt_stored]
  by_cases e : y = k
  · simp only [e, if_true]; exact ⟨t, rfl⟩
  · simp only [e, if_false]; exact h y
theorem heard_new {bs os row : List Int} {st : (Int → Option Int) × List Int} {a far : Int} (h : far ∈ row) (hq : st.1 far = none) : heardStep bs os st (row, (a, far)) = (putM st.1 far (os.getD (bs.idxOf far) 0), st.2 ++ [os.getD (bs.idxOf far) 0]) := by
  unfold heardStep
  simp only [h, not_true, if_false, hq, if_true]
  simp [putM]
theorem heard_old {bs os row : List Int} {st : (Int → Option Int) × List Int} {a far x : Int} (h : far ∈ row) (hq : st.1 far = some x) : heardStep bs os st (row, (a, far)) = (st.1, st.2 ++ [x]) := by
  unfold heardStep
  simp only [h, not_true, if_false, hq]
  simp [hq]
theorem heard_out {bs os row : List Int} {st : (Int → Option Int) × List Int} {a far : Int} (h : far ∉ row) : heardStep bs os st (row, (a, far)) = (putM st.1 far far, st.2 ++ [far]) := by
  unfold heardStep
  simp only [h, not_false_iff, if_true]
  simp [putM]
noncomputable def heardJ (w : World) (bg ot : Addr) (bs os : List Int) (run : List (Int × Int)) (rows : List (List Int)) (i : Nat) (m : Str → Option Value) (nx : List (Addr × Obj)) : Prop :=
  ∃ md od kvs fl fvs n, m (Str.ofString "meant") = some (.ref md) ∧ m (Str.ofString "found") = some (.ref fl) ∧ m (Str.ofString "begun") = some (.ref bg) ∧ m (Str.ofString "other") = some (.ref ot) ∧
    nx = [(fl, listOf (List.toArray fvs) n), (md, od)] ∧ @Ne Nat md fl ∧ (md == sysModules) = false ∧ od.IsDictOf (PySem.intKind PR w) kvs ∧ kvs.length ≤ i ∧ MeantAt kvs (heardS bs os run rows i).1 ∧ IntsAre fvs (heardS bs os run rows i).2 ∧ fvs.length = i

set_option maxHeartbeats 8000000 in
theorem heard_does (w : World) (bg ot r rw : Addr) (bvs ovs : List Value) (nb : Nat) (bs os : List Int) (run : List (Int × Int)) (rows : List (List Int)) (hb : IntsAre bvs bs) (ho : IntsAre ovs os) (h1 : bs.length < 1000) (h2 : run.length < 1000) (h3 : ∀ row ∈ rows, row.length < 1000) (hok : HeardOk bs os run rows) :
    Does w 278 [.ref bg, .ref ot, .ref r, .ref rw] 2 [] (fun h => (h.get? bg = some (listOf bvs.toArray nb) ∧ h.IsList ot ovs.toArray) ∧ LstAt PairAt h r run ∧ LstAt IntsAt h rw rows) (fun v news _ => ∃ l vs n, v = .ref l ∧ (l, listOf vs.toArray n) ∈ news ∧ IntsAre vs (heardF bs os run rows)) := by
  refine' does_of [(Str.ofString "begun", .ref bg), (Str.ofString "other", .ref ot), (Str.ofString "run", .ref r), (Str.ofString "rows", .ref rw)] ?ho ?hcd ?hbind ?hloc ?c2 ?c3 ?c4 ?c5 ?cP ?body
  case ho => k_is
  case hcd => k_is
  case hbind => exact fun _ _ => BindsTo.of_eq rfl
  case hloc => exact locs rfl
  case c2 => exact rfl
  case c3 => exact rfl
  case c4 => exact rfl
  case c5 => decide
  case cP => exact fun _ _ g h => ⟨⟨g _ _ h.1.1 (by simp), is_list_but g h.1.2 (by simp)⟩, h.2.1.keeps (fun _ _ _ _ k x => x.keeps k) (stays_of_gsub g), h.2.2.keeps (fun _ _ _ _ k x => x.keeps k) (stays_of_gsub g)⟩
  case body =>
    intro mg mb p loose mean base env outer dp un gd s g' L' h' tk0 cx hdp hun hp B' X' T' G' F' N'
    obtain ⟨⟨hbg, hol⟩, ⟨rvs, hrl, hra⟩, ⟨wvs, hwl, hwa⟩⟩ := hp
    have hbl : g'.IsList bg bvs.toArray := ⟨_, hbg, rfl, _, rfl⟩
    have hlen := hra.1
    have hlen2 := hwa.1
    obtain ⟨hk1, hk2, hk3⟩ := hok
    try k_unmd
    k_fold
    k_steps
    refine stop_on ?_
    refine' src_zip (xs := wvs.toArray) (ys := rvs.toArray) rfl ?lst1 ?lst2 (fun it s₂ S => loop_of (nx₀ := [(_, listOf (List.toArray []) _), (_, _)]) (heardJ w bg ot bs os run rows) S (by assumption) (news_sub (by assumption) ?sub) ?h0 ?hrd ?turn ?done)
    case lst1 => exact stays_list (Fr.keep (by k_asm)) (by assumption)
    case lst2 => exact stays_list (Fr.keep (by k_asm)) (by assumption)
    case sub =>
      refine List.forall_mem_cons.mpr ⟨?_, ?_⟩
      · k_memK
      · refine List.forall_mem_cons.mpr ⟨?_, List.forall_mem_nil _⟩
        refine List.Mem.tail _ ?_
        refine List.Mem.tail _ ?_
        exact List.Mem.head _
    case h0 => exact ⟨_, _, [], _, [], _, rfl, rfl, rfl, rfl, rfl, neN (by omega), by assumption, by assumption, Nat.le_refl _, fun k => rfl, IntsAre.nil, rfl⟩
    case hrd => exact List.forall_mem_cons.mpr ⟨.inl (by obtain ⟨o, e, _⟩ := hwl; exact ⟨o, e⟩), List.forall_mem_cons.mpr ⟨.inl (by obtain ⟨o, e, _⟩ := hrl; exact ⟨o, e⟩), List.forall_mem_nil _⟩⟩
    case turn =>
      intro i v m₁ nx h tk own hi hP hoff hJ F₁ N₁
      refine (let G : Prop := _; (?_ : G))
      obtain ⟨T, vals, rfl, ⟨x, y, hx, hy, rfl⟩, hT⟩ := hP
      refine ex6 hJ ?_
      intro md od kvs fl fvs n z9p
      clear hJ
      refine and12 z9p ?_
      clear z9p
      intro e1 e2 e3 e4 z9e4 hne lo hd hkl hmn hfv hfl
      subst z9e4
      simp only [List.getElem?_toArray] at hx hy
      have hir : i < run.length := by have := (List.getElem?_eq_some_iff.mp hy).1; omega
      have hiw : i < rows.length := by omega
      obtain ⟨v1, hv1, a1, u1, u2, e5, ht1⟩ := hra.at (List.getElem?_eq_getElem hir)
      obtain ⟨v2, hv2, a2, lvs, e6, ht2, hl2⟩ := hwa.at (List.getElem?_eq_getElem hiw)
      have e7 : y = .ref a1 := by rw [hv1] at hy; cases hy; exact e5
      have e8 : x = .ref a2 := by rw [hv2] at hx; cases hx; exact e6
      subst e7 e8
      have hrow := h3 _ (List.getElem_mem hiw)
      have hk := hk3 i _ _ (List.getElem?_eq_getElem hiw) (List.getElem?_eq_getElem hir)
      have F₂ := fr_lit [(Str.ofString "meant", .ref md), (Str.ofString "found", .ref fl), (Str.ofString "begun", .ref bg), (Str.ofString "other", .ref ot)] (List.forall_mem_cons.mpr ⟨e1, List.forall_mem_cons.mpr ⟨e2, List.forall_mem_cons.mpr ⟨e3, List.forall_mem_cons.mpr ⟨e4, List.forall_mem_nil _⟩⟩⟩⟩) F₁
      clear F₁
      dsimp only [kstB] at F₂
      simp only [List.map_cons, List.map_nil, List.cons_append, List.nil_append] at hoff; (try dsimp only [List.map_cons, List.map_nil, List.cons_append, List.nil_append] at N₁)
      have hT' : IsTup h T [Value.ref a2, Value.ref a1].toArray := isTup_of hT
      k_unmd
      k_unfold
      generalize hrw : rows[i] = row at *
      generalize hp1 : run[i].1 = ahead at *
      generalize hp2 : run[i].2 = far at *
      have hmf := hmn far
      have hst : heardS bs os run rows (i + 1) = heardStep bs os (heardS bs os run rows i) (row, (ahead, far)) := by
        unfold heardS
        rw [List.take_add_one, List.foldl_append]
        have : (rows.zip run)[i]? = some (row, (ahead, far)) := by
          rw [List.getElem?_zip_eq_some]
          exact ⟨by rw [← hrw]; exact List.getElem?_eq_getElem hiw, by rw [← hp1, ← hp2]; exact List.getElem?_eq_getElem hir⟩
        rw [this]; rfl
      by_cases hfr : far ∈ row
      · have hfr1 : (row.any fun y => y == far) = true := any_mem.mpr hfr
        cases hq : (heardS bs os run rows i).1 far with
        | none =>
          rw [hq] at hmf hk
          have hvn : (valueAt kvs far).isSome = false := by rw [hmf]; rfl
          have hfb := hk hfr rfl
          try k_unmd
          k_fold
          k_steps
          (try dsimp only)
          refine end_next [(fl, listOf (List.toArray _) _), (md, _)] (by assumption) (by assumption) (by k_allIn) (by intro p hp; k_ownIn) hoff ⟨md, _, _, fl, _, _, rfl, rfl, rfl, rfl, rfl, hne, lo, by assumption, ?_, ?_, ?_, ?_⟩
          · refine Nat.le_trans (stored_length_le _ _ _) ?_; omega
          · rw [hst, heard_new hfr hq]; exact hmn.put _ _ _
          · rw [hst, heard_new hfr hq]; simp only [List.concat_eq_append]; exact snoc_ints hfv _ _
          · simp only [List.length_concat]; exact congrArg (· + 1) hfl
        | some x =>
          rw [hq] at hmf
          obtain ⟨tx, hvx⟩ := hmf
          have hvn : (valueAt kvs far).isSome = true := by rw [hvx]; rfl
          try k_unmd
          k_fold
          k_steps
          (try dsimp only)
          refine end_next [(fl, listOf (List.toArray _) _), (md, _)] (by assumption) (by assumption) (by k_allIn) (by intro p hp; k_ownIn) hoff ⟨md, _, _, fl, _, _, rfl, rfl, rfl, rfl, rfl, hne, lo, by assumption, ?_, ?_, ?_, ?_⟩
          · omega
          · rw [hst, heard_old hfr hq]; exact hmn
          · rw [hst, heard_old hfr hq]; simp only [List.concat_eq_append]; exact snoc_ints hfv _ _
          · simp only [List.length_concat]; exact congrArg (· + 1) hfl
      · have hfr1 : (row.any fun y => y == far) = false := any_not.mpr hfr
        try k_unmd
        k_fold
        k_steps
        (try dsimp only)
        refine end_next [(fl, listOf (List.toArray _) _), (md, _)] (by assumption) (by assumption) (by k_allIn) (by intro p hp; k_ownIn) hoff ⟨md, _, _, fl, _, _, rfl, rfl, rfl, rfl, rfl, hne, lo, by assumption, ?_, ?_, ?_, ?_⟩
        · refine Nat.le_trans (stored_length_le _ _ _) ?_; omega
        · rw [hst, heard_out hfr]; exact hmn.put _ _ _
        · rw [hst, heard_out hfr]; simp only [List.concat_eq_append]; exact snoc_ints hfv _ _
        · simp only [List.length_concat]; exact congrArg (· + 1) hfl
    case done =>
      intro h' tk m' nx hJ F₁ N₁
      refine (let G : Prop := _; (?_ : G))
      refine ex6 hJ ?_
      intro md od kvs fl fvs n z9p
      clear hJ
      refine and12 z9p ?_
      clear z9p
      intro e1 e2 e3 e4 z9e4 hne lo hd hkl hmn hfv hfl
      subst z9e4
      have hmin : min wvs.toArray.size rvs.toArray.size = run.length := by simp only [List.size_toArray]; omega
      rw [hmin] at hfv
      have F₂ := fr_lit [(Str.ofString "meant", .ref md), (Str.ofString "found", .ref fl), (Str.ofString "begun", .ref bg), (Str.ofString "other", .ref ot)] (List.forall_mem_cons.mpr ⟨e1, List.forall_mem_cons.mpr ⟨e2, List.forall_mem_cons.mpr ⟨e3, List.forall_mem_cons.mpr ⟨e4, List.forall_mem_nil _⟩⟩⟩⟩) F₁
      clear F₁
      dsimp only [kstB] at F₂
      k_unmd
      k_unfold
      k_steps
      (try dsimp only); (try k_unfold)
      refine leaf_ret (by assumption) (by assumption) ?_
      exact ⟨_, _, _, rfl, by k_mem, hfv⟩

noncomputable abbrev T3 := Int × Int × Int
noncomputable def tripL (t : T3) : List Int := [t.1, t.2.1, t.2.2]
noncomputable def offStep (st : (T3 × T3) × List Int) (p : Int × Int) : (T3 × T3) × List Int :=
  let W := st.1.1
  let R := st.1.2
  let v := valueO W.1 W.2.1 W.2.2 p.2 p.1
  let t := toldBy R.1 R.2.1 R.2.2 v p.1
  ((moveO W.1 W.2.1 W.2.2 p.2 (toldBy W.1 W.2.1 W.2.2 v p.1).2, moveO R.1 R.2.1 R.2.2 t.1 t.2), st.2 ++ [t.1])
noncomputable def offS (b o : T3) (run : List (Int × Int)) (i : Nat) : (T3 × T3) × List Int := (run.take i).foldl offStep ((b, o), [])
noncomputable def namedL (W : T3) (ahead : Int) : List Int := if 0 < ahead then tripL W else [W.2.1, W.2.2, W.1 - 1]
noncomputable def namedV (W : T3) (far ahead : Int) : Int := if far ∈ namedL W ahead then ((namedL W ahead).idxOf far : Int) + 1 else far + 3
noncomputable def rowsF (bs : List Int) (lates : List (List Int)) (room : Nat) : List (List Int) := lates.map fun l => rowOf bs l room
structure OffOk (b o : T3) (run : List (Int × Int)) (lates : List (List Int)) : Prop where
  far : ∀ p ∈ run, 1 ≤ p.2 ∧ 0 ≤ p.1 ∧ p.1 < 1000
  rows : ∀ i (hi : i < lates.length), rowOf (tripL b) lates[i] 3 = tripL (offS b o run i).1.1
  value : ∀ i (hi : i < run.length), valueO (offS b o run i).1.1.1 (offS b o run i).1.1.2.1 (offS b o run i).1.1.2.2 run[i].2 run[i].1 = namedV (offS b o run i).1.1 run[i].2 run[i].1
  told : ∀ i (hi : i < run.length), (toldBy (offS b o run i).1.2.1 (offS b o run i).1.2.2.1 (offS b o run i).1.2.2.2 (valueO (offS b o run i).1.1.1 (offS b o run i).1.1.2.1 (offS b o run i).1.1.2.2 run[i].2 run[i].1) run[i].1).1 ≠ 0
  same : (offS b o run run.length).2 = heardF (tripL b) (tripL o) run (rowsF (tripL b) lates 3)
  heard : HeardOk (tripL b) (tripL o) run (rowsF (tripL b) lates 3)
theorem offS_succ {b o : T3} {run : List (Int × Int)} {i : Nat} (h : i < run.length) : offS b o run (i + 1) = offStep (offS b o run i) run[i] := by
  unfold offS
  rw [List.take_add_one, List.getElem?_eq_getElem h, List.foldl_append]; rfl
theorem rowsF_at {bs : List Int} {lates : List (List Int)} {room i : Nat} (h : i < lates.length) : (rowsF bs lates room)[i]? = some (rowOf bs lates[i] room) := by
  unfold rowsF
  rw [List.getElem?_map, List.getElem?_eq_getElem h]; rfl

/-- one more use, on the whole list of distances -/
noncomputable def stepX (k f : Int) (X : List Int) : List Int := if k = 0 ∧ X.head? = some f then f :: f :: X.tail.erase f else f :: X.erase f
theorem erase_take (f : Int) : ∀ (X : List Int) (m : Nat), (X.erase f).take m = ((X.take (m + 1)).erase f).take m
  | [], m => by simp
  | a :: X, 0 => by simp
  | a :: X, m + 1 => by
    by_cases h : a = f
    · subst h
      simp [List.take_take]
    · have hb : (a == f) = false := by simpa using h
      rw [List.take_succ_cons, List.erase_cons_tail (by simpa using h), List.erase_cons_tail (by simpa using h), List.take_succ_cons, List.take_succ_cons, erase_take f X m]
theorem stepX_take {n : Nat} (hn : 1 ≤ n) (k f : Int) (X : List Int) : (stepX k f X).take n = (stepX k f (X.take n)).take n := by
  obtain ⟨m, rfl⟩ : ∃ m, n = m + 1 := ⟨n - 1, by omega⟩
  have h1 : (X.take (m + 1)).head? = X.head? := by cases X <;> rfl
  unfold stepX
  rw [h1]
  split
  · have h2 : (X.take (m + 1)).tail = X.tail.take m := by cases X <;> simp
    rw [h2]
    cases m with
    | zero => simp
    | succ m => simp only [List.take_succ_cons]; rw [erase_take]
  · simp only [List.take_succ_cons]; rw [erase_take]

noncomputable def stepP (prev : Int × Int) (far : Int) (st : List Int × List Int) : List Int × List Int :=
  if far ∉ st.1 then (st.1 ++ [far], st.2) else if prev = (0, far) ∧ far ∉ st.2 then (st.1 ++ [far], st.2 ++ [far]) else st
noncomputable def lateR : (Int × Int) → List (Int × Int) → List Int × List Int → List Int × List Int
  | _, [], st => st
  | prev, p :: rest, st => lateR p rest (stepP prev p.2 st)
theorem lateR_of (run : List (Int × Int)) : ∀ (m : Nat) (_ : m ≤ run.length) (st : List Int × List Int), (List.range m).reverse.foldl (stepL run) st = lateR (run.getD m (0, 0)) (run.take m).reverse st
  | 0, _, st => rfl
  | m + 1, hm, st => by
    have h1 : run.take (m + 1) = run.take m ++ [run[m]] := by rw [List.take_add_one, List.getElem?_eq_getElem (by omega)]; rfl
    rw [List.range_succ, List.reverse_append, h1, List.reverse_append]
    show (List.range m).reverse.foldl (stepL run) (stepL run st m) = lateR (run.getD (m + 1) (0, 0)) (run[m] :: (run.take m).reverse) st
    rw [lateR_of run m (by omega)]
    have h2 : run.getD m (0, 0) = run[m] := by simp [List.getD, show m < run.length by omega]
    show _ = lateR run[m] (run.take m).reverse (stepP (run.getD (m + 1) (0, 0)) run[m].2 st)
    have h3 : stepL run st m = stepP (run.getD (m + 1) (0, 0)) run[m].2 st := by unfold stepL stepP; rw [h2]
    rw [h2, h3]
theorem lateF_R (run : List (Int × Int)) : lateF run = (lateR (0, 0) run.reverse ([], [])).1 := by
  unfold lateF lateS
  rw [List.take_of_length_le (by simp), lateR_of run run.length (Nat.le_refl _), List.take_length]
  congr 2
  simp [List.getD]
theorem lateR_n (f : Int) : ∀ (l : List (Int × Int)) (prev : Int × Int) (A T : List Int) (x : Int), A.head? = some x → (f ∉ A → prev.2 ≠ f ∧ f ∉ T) →
    lateR prev l (f :: A.erase f, T) = (f :: (lateR prev l (A, T)).1.erase f, (lateR prev l (A, T)).2) ∧ (lateR prev l (A, T)).1.head? = some x
  | [], prev, A, T, x, hx, h => ⟨rfl, hx⟩
  | p :: l, prev, A, T, x, hx, h => by
    show lateR p l (stepP prev p.2 (f :: A.erase f, T)) = (f :: (lateR p l (stepP prev p.2 (A, T))).1.erase f, (lateR p l (stepP prev p.2 (A, T))).2) ∧ (lateR p l (stepP prev p.2 (A, T))).1.head? = some x
    have snoc : ∀ g, (A ++ [g]).head? = some x := fun g => by cases A with
      | nil => cases hx
      | cons a A => exact hx
    by_cases hg : p.2 = f
    · by_cases hfA : f ∈ A
      · have hm : f ∈ f :: A.erase f := .head _
        have he : (A ++ [f]).erase f = A.erase f ++ [f] := List.erase_append_left _ hfA
        by_cases hc : prev = (0, f) ∧ f ∉ T
        · have e1 : stepP prev p.2 (f :: A.erase f, T) = (f :: (A ++ [f]).erase f, T ++ [f]) := by
            unfold stepP; rw [hg, he]; simp only [hm, not_true, if_false]; rw [if_pos hc]; rfl
          have e2 : stepP prev p.2 (A, T) = (A ++ [f], T ++ [f]) := by unfold stepP; rw [hg]; simp only [hfA, not_true, if_false]; rw [if_pos hc]
          rw [e1, e2]
          exact lateR_n f l p _ _ x (snoc f) (fun q => absurd (List.mem_append_left _ hfA) q)
        · have e1 : stepP prev p.2 (f :: A.erase f, T) = (f :: A.erase f, T) := by unfold stepP; rw [hg]; simp only [hm, not_true, if_false]; rw [if_neg hc]
          have e2 : stepP prev p.2 (A, T) = (A, T) := by unfold stepP; rw [hg]; simp only [hfA, not_true, if_false]; rw [if_neg hc]
          rw [e1, e2]
          exact lateR_n f l p _ _ x hx (fun q => absurd hfA q)
      · have hm : f ∈ f :: A.erase f := .head _
        have hc : ¬ (prev = (0, f) ∧ f ∉ T) := fun q => (h hfA).1 (by rw [q.1])
        have e1 : stepP prev p.2 (f :: A.erase f, T) = (f :: (A ++ [f]).erase f, T) := by
          unfold stepP; rw [hg]; simp only [hm, not_true, if_false]; rw [if_neg hc, List.erase_append_right _ hfA, List.erase_of_not_mem hfA]; simp
        have e2 : stepP prev p.2 (A, T) = (A ++ [f], T) := by unfold stepP; rw [hg]; rw [if_pos hfA]
        rw [e1, e2]
        exact lateR_n f l p _ _ x (snoc f) (fun q => absurd (List.mem_append_right _ (.head _)) q)
    · have hm : p.2 ∈ f :: A.erase f ↔ p.2 ∈ A := by
        rw [List.mem_cons, List.mem_erase_of_ne hg]
        exact ⟨fun q => q.elim (fun e => absurd e hg) id, .inr⟩
      have he : (A ++ [p.2]).erase f = A.erase f ++ [p.2] := by
        by_cases hfA : f ∈ A
        · exact List.erase_append_left _ hfA
        · rw [List.erase_append_right _ hfA, List.erase_of_not_mem hfA, List.erase_of_not_mem (by simpa using fun e => hg e.symm)]
      have keepA : ∀ g, f ∉ A ++ [g] → f ∉ A := fun g q r => q (List.mem_append_left _ r)
      by_cases hA : p.2 ∈ A
      · by_cases hc : prev = (0, p.2) ∧ p.2 ∉ T
        · have e1 : stepP prev p.2 (f :: A.erase f, T) = (f :: (A ++ [p.2]).erase f, T ++ [p.2]) := by
            unfold stepP; simp only [hm.mpr hA, not_true, if_false]; rw [if_pos hc, he]; rfl
          have e2 : stepP prev p.2 (A, T) = (A ++ [p.2], T ++ [p.2]) := by unfold stepP; simp only [hA, not_true, if_false]; rw [if_pos hc]
          rw [e1, e2]
          exact lateR_n f l p _ _ x (snoc _) (fun q => ⟨hg, fun r => (List.mem_append.mp r).elim (h (keepA _ q)).2 fun r => hg (List.mem_singleton.mp r).symm⟩)
        · have e1 : stepP prev p.2 (f :: A.erase f, T) = (f :: A.erase f, T) := by unfold stepP; simp only [hm.mpr hA, not_true, if_false]; rw [if_neg hc]
          have e2 : stepP prev p.2 (A, T) = (A, T) := by unfold stepP; simp only [hA, not_true, if_false]; rw [if_neg hc]
          rw [e1, e2]
          exact lateR_n f l p _ _ x hx (fun q => ⟨hg, (h q).2⟩)
      · have e1 : stepP prev p.2 (f :: A.erase f, T) = (f :: (A ++ [p.2]).erase f, T) := by
          unfold stepP; rw [if_pos (fun q => hA (hm.mp q)), he]; rfl
        have e2 : stepP prev p.2 (A, T) = (A ++ [p.2], T) := by unfold stepP; rw [if_pos hA]
        rw [e1, e2]
        exact lateR_n f l p _ _ x (snoc _) (fun q => ⟨hg, (h (keepA _ q)).2⟩)
theorem lateR_z (f : Int) : ∀ (l : List (Int × Int)) (prev : Int × Int) (t T T' : List Int), (f ∈ t → f ∈ T) → (∀ g, g ∈ T' ↔ g ∈ T ∨ g = f) →
    ∃ t', (lateR prev l (f :: t, T)).1 = f :: t' ∧ (lateR prev l (f :: f :: t.erase f, T')).1 = f :: f :: t'.erase f
  | [], prev, t, T, T', h1, h2 => ⟨t, rfl, rfl⟩
  | p :: l, prev, t, T, T', h1, h2 => by
    show ∃ t', (lateR p l (stepP prev p.2 (f :: t, T))).1 = f :: t' ∧ (lateR p l (stepP prev p.2 (f :: f :: t.erase f, T'))).1 = f :: f :: t'.erase f
    have hfT' : f ∈ T' := (h2 f).mpr (.inr rfl)
    by_cases hg : p.2 = f
    · have hm : f ∈ f :: t := .head _
      have hm' : f ∈ f :: f :: t.erase f := .head _
      have e1 : stepP prev p.2 (f :: f :: t.erase f, T') = (f :: f :: t.erase f, T') := by
        unfold stepP; rw [hg]; simp only [hm', not_true, if_false]; rw [if_neg fun q => q.2 hfT']
      rw [e1]
      by_cases hc : prev = (0, f) ∧ f ∉ T
      · have e2 : stepP prev p.2 (f :: t, T) = (f :: (t ++ [f]), T ++ [f]) := by unfold stepP; rw [hg]; simp only [hm, not_true, if_false]; rw [if_pos hc]; rfl
        have hft : f ∉ t := fun q => hc.2 (h1 q)
        have e3 : t.erase f = (t ++ [f]).erase f := by rw [List.erase_append_right _ hft, List.erase_of_not_mem hft]; simp
        rw [e2, e3]
        refine lateR_z f l p _ _ _ (fun _ => List.mem_append_right _ (.head _)) fun g => ?_
        rw [h2 g, List.mem_append, List.mem_singleton]
        exact ⟨fun q => q.elim (fun q => .inl (.inl q)) .inr, fun q => q.elim (fun q => q) .inr⟩
      · have e2 : stepP prev p.2 (f :: t, T) = (f :: t, T) := by unfold stepP; rw [hg]; simp only [hm, not_true, if_false]; rw [if_neg hc]
        rw [e2]
        exact lateR_z f l p _ _ _ h1 h2
    · have hm : p.2 ∈ f :: f :: t.erase f ↔ p.2 ∈ f :: t := by
        rw [List.mem_cons, List.mem_cons, List.mem_cons, List.mem_erase_of_ne hg]
        exact ⟨fun q => q.elim .inl id, .inr⟩
      have he : (t ++ [p.2]).erase f = t.erase f ++ [p.2] := by
        by_cases hfA : f ∈ t
        · exact List.erase_append_left _ hfA
        · rw [List.erase_append_right _ hfA, List.erase_of_not_mem hfA, List.erase_of_not_mem (by simpa using fun e => hg e.symm)]
      have hT : p.2 ∈ T' ↔ p.2 ∈ T := by rw [h2]; exact ⟨fun q => q.elim id fun e => absurd e hg, .inl⟩
      have h1' : f ∈ t ++ [p.2] → f ∈ T := fun q => (List.mem_append.mp q).elim h1 fun q => absurd (List.mem_singleton.mp q).symm hg
      by_cases hA : p.2 ∈ f :: t
      · by_cases hc : prev = (0, p.2) ∧ p.2 ∉ T
        · have e1 : stepP prev p.2 (f :: f :: t.erase f, T') = (f :: f :: (t ++ [p.2]).erase f, T' ++ [p.2]) := by
            unfold stepP; simp only [hm.mpr hA, not_true, if_false]; rw [if_pos ⟨hc.1, fun q => hc.2 (hT.mp q)⟩, he]; rfl
          have e2 : stepP prev p.2 (f :: t, T) = (f :: (t ++ [p.2]), T ++ [p.2]) := by unfold stepP; simp only [hA, not_true, if_false]; rw [if_pos hc]; rfl
          rw [e1, e2]
          refine lateR_z f l p _ _ _ (fun q => List.mem_append_left _ (h1' q)) fun g => ?_
          rw [List.mem_append, List.mem_append, h2 g]
          exact ⟨fun q => q.elim (fun q => q.elim (fun q => .inl (.inl q)) .inr) (fun q => .inl (.inr q)), fun q => q.elim (fun q => q.elim (fun q => .inl (.inl q)) .inr) (fun q => .inl (.inr q))⟩
        · have e1 : stepP prev p.2 (f :: f :: t.erase f, T') = (f :: f :: t.erase f, T') := by unfold stepP; simp only [hm.mpr hA, not_true, if_false]; rw [if_neg fun q => hc ⟨q.1, fun r => q.2 (hT.mpr r)⟩]
          have e2 : stepP prev p.2 (f :: t, T) = (f :: t, T) := by unfold stepP; simp only [hA, not_true, if_false]; rw [if_neg hc]
          rw [e1, e2]
          exact lateR_z f l p _ _ _ h1 h2
      · have e1 : stepP prev p.2 (f :: f :: t.erase f, T') = (f :: f :: (t ++ [p.2]).erase f, T') := by
          unfold stepP; rw [if_pos (fun q => hA (hm.mp q)), he]; rfl
        have e2 : stepP prev p.2 (f :: t, T) = (f :: (t ++ [p.2]), T) := by unfold stepP; rw [if_pos hA]; rfl
        rw [e1, e2]
        exact lateR_z f l p _ _ _ h1' h2
theorem lateF_snoc (run : List (Int × Int)) (k f : Int) : lateF (run ++ [(k, f)]) = stepX k f (lateF run) := by
  rw [lateF_R, lateF_R, List.reverse_append]
  show (lateR (k, f) run.reverse ([f], [])).1 = stepX k f (lateR (0, 0) run.reverse ([], [])).1
  cases run.reverse with
  | nil => show [f] = stepX k f []; unfold stepX; simp
  | cons p l =>
    show (lateR p l (stepP (k, f) p.2 ([f], []))).1 = stepX k f (lateR p l ([p.2], [])).1
    by_cases hg : p.2 = f
    · by_cases hk : k = 0
      · have e1 : stepP (k, f) p.2 ([f], []) = ([f, f], [f]) := by unfold stepP; rw [hg, hk]; simp
        rw [e1, hg]
        obtain ⟨t', h1, h2⟩ := lateR_z f l p [] [] [f] (fun q => nomatch q) (fun g => by simp)
        rw [h1]
        show (lateR p l (f :: f :: [].erase f, [f])).1 = _
        rw [h2]
        unfold stepX
        rw [if_pos ⟨hk, rfl⟩]; rfl
      · have e1 : stepP (k, f) p.2 ([f], []) = (f :: [f].erase f, []) := by unfold stepP; rw [hg]; simp [hk]
        rw [e1, hg, (lateR_n f l p [f] [] f rfl (fun q => absurd (List.Mem.head _) q)).1]
        unfold stepX
        rw [if_neg fun q => hk q.1]
    · have e1 : stepP (k, f) p.2 ([f], []) = (f :: [p.2].erase f, []) := by
        unfold stepP; rw [if_pos (by simpa using hg), List.erase_of_not_mem (by simpa using fun e => hg e.symm)]; rfl
      have hn := lateR_n f l p [p.2] [] p.2 rfl (fun _ => ⟨hg, fun q => nomatch q⟩)
      rw [e1, hn.1]
      unfold stepX
      rw [if_neg fun q => hg (by have := q.2; rw [hn.2] at this; exact Option.some.inj this)]

noncomputable abbrev less (b L : List Int) : List Int := L.foldl (fun r f => r.erase f) b
theorem less_erase (f : Int) : ∀ (L b : List Int), less (b.erase f) L = (less b L).erase f
  | [], b => rfl
  | a :: L, b => by
    show less ((b.erase f).erase a) L = (less (b.erase a) L).erase f
    rw [List.erase_comm, less_erase f L]
theorem less_mem (f : Int) : ∀ (L b : List Int), f ∈ L → less (b.erase f) (L.erase f) = less b L
  | [], b, h => nomatch h
  | a :: L, b, h => by
    by_cases e : a = f
    · subst e; rw [List.erase_cons_head]; rfl
    · rw [List.erase_cons_tail (by simpa using e)]
      show less ((b.erase f).erase a) (L.erase f) = less (b.erase a) L
      rw [List.erase_comm, less_mem f L _ ((List.mem_cons.mp h).elim (fun q => absurd q.symm e) id)]
theorem whole_erase (f : Int) (L b : List Int) : L.erase f ++ less (b.erase f) (L.erase f) = (L ++ less b L).erase f := by
  by_cases h : f ∈ L
  · rw [less_mem f L b h, List.erase_append_left _ h]
  · rw [List.erase_of_not_mem h, List.erase_append_right _ h, less_erase]
noncomputable def whole (b L : List Int) : List Int := L ++ less b L
theorem whole_step (k f : Int) (L b : List Int) (h : k ≠ 0 ∨ L ≠ []) : whole b (stepX k f L) = stepX k f (whole b L) := by
  unfold stepX
  by_cases hc : k = 0 ∧ L.head? = some f
  · cases L with
    | nil => exact absurd hc.2 (by simp)
    | cons a t =>
      have ha : a = f := Option.some.inj hc.2
      subst ha
      rw [if_pos hc, if_pos ⟨hc.1, rfl⟩]
      show a :: a :: (t.erase a ++ less ((b.erase a).erase a) (t.erase a)) = a :: a :: ((t ++ less (b.erase a) t)).erase a
      rw [whole_erase]
  · have hc' : ¬ (k = 0 ∧ (whole b L).head? = some f) := by
      rintro ⟨h1, h2⟩
      cases L with
      | nil => exact h.elim (fun q => q h1) (fun q => q rfl)
      | cons a t => exact hc ⟨h1, h2⟩
    rw [if_neg hc, if_neg hc']
    show f :: (L.erase f ++ less (b.erase f) (L.erase f)) = f :: (L ++ less b L).erase f
    rw [whole_erase]
/-- the row, use by use -/
noncomputable def rowX (n : Nat) (W : List Int) (run : List (Int × Int)) : List Int := run.foldl (fun X p => (stepX p.1 p.2 X).take n) W
theorem row_snoc {n : Nat} (hn : 1 ≤ n) (b : List Int) (run : List (Int × Int)) (k f : Int) (h : k ≠ 0 ∨ lateF run ≠ []) : rowOf b (lateF (run ++ [(k, f)])) n = (stepX k f (rowOf b (lateF run) n)).take n := by
  show (whole b (lateF (run ++ [(k, f)]))).take n = (stepX k f ((whole b (lateF run)).take n)).take n
  rw [lateF_snoc, whole_step _ _ _ _ h, stepX_take hn]
theorem row_run {n : Nat} (hn : 1 ≤ n) (b : List Int) (hb : b.length = n) (run : List (Int × Int)) (hk : ∀ p ∈ run, p.1 ≠ 0) : ∀ i, i ≤ run.length → rowOf b (lateF (run.take i)) n = rowX n b (run.take i)
  | 0, _ => by
    show (List.take n ([] ++ b)) = b
    rw [List.nil_append, List.take_of_length_le (by omega)]
  | i + 1, hi => by
    have h1 : run.take (i + 1) = run.take i ++ [(run[i].1, run[i].2)] := by rw [List.take_add_one, List.getElem?_eq_getElem (by omega)]; rfl
    rw [h1, row_snoc hn _ _ _ _ (.inl (hk _ (List.getElem_mem _))), row_run hn b hb run hk i (by omega)]
    unfold rowX
    rw [List.foldl_append]; rfl
theorem late_ne (p : Int × Int) (run : List (Int × Int)) : ∀ i, lateF (p :: run.take i) ≠ [] := by
  intro i
  have : ∀ l : List (Int × Int), l ≠ [] → lateF l ≠ [] := by
    intro l hl
    obtain ⟨l', q, rfl⟩ : ∃ l' q, l = l' ++ [q] := ⟨l.dropLast, l.getLast hl, (List.dropLast_concat_getLast hl).symm⟩
    obtain ⟨k, f⟩ := q
    rw [lateF_snoc]
    unfold stepX; split <;> simp
  exact this _ (by simp)
theorem row_bare {n : Nat} (hn : 1 ≤ n) (b : List Int) (hb : b.length = n) (first : Int) (hf : b.head? = some first) (run : List (Int × Int)) : ∀ i, i ≤ run.length → rowOf b (lateF ((1, first) :: run.take i)) n = rowX n b (run.take i)
  | 0, _ => by
    cases b with
    | nil => cases hf
    | cons a b =>
      have : a = first := Option.some.inj hf
      subst this
      have hl : lateF ((1, a) :: run.take 0) = [a] := by
        have : ((1, a) :: run.take 0 : List (Int × Int)) = [] ++ [(1, a)] := rfl
        rw [this, lateF_snoc]; rfl
      rw [hl]
      show List.take n (a :: (less ((a :: b).erase a) [])) = a :: b
      rw [List.erase_cons_head]
      show List.take n (a :: b) = a :: b
      exact List.take_of_length_le (by omega)
  | i + 1, hi => by
    have h1 : ((1, first) :: run.take (i + 1) : List (Int × Int)) = ((1, first) :: run.take i) ++ [(run[i].1, run[i].2)] := by rw [List.take_add_one, List.getElem?_eq_getElem (by omega)]; rfl
    have h2 : run.take (i + 1) = run.take i ++ [(run[i].1, run[i].2)] := by rw [List.take_add_one, List.getElem?_eq_getElem (by omega)]; rfl
    rw [h1, row_snoc hn _ _ _ _ (.inr (late_ne _ _ _)), row_bare hn b hb first hf run i (by omega), h2]
    unfold rowX
    rw [List.foldl_append]; rfl
theorem heardS_succ {bs os : List Int} {run : List (Int × Int)} {rows : List (List Int)} {i : Nat} {row : List Int} {p : Int × Int} (h1 : rows[i]? = some row) (h2 : run[i]? = some p) : heardS bs os run rows (i + 1) = heardStep bs os (heardS bs os run rows i) (row, p) := by
  unfold heardS
  rw [List.take_add_one, List.foldl_append]
  have : (rows.zip run)[i]? = some (row, p) := List.getElem?_zip_eq_some.mpr ⟨h1, h2⟩
  rw [this]; rfl
/-- what the reader moves by, place by place with the writer -/
noncomputable def mvR (n : Nat) (f : Int) (W R : List Int) : List Int := if f ∈ W then R.getD (W.idxOf f) 0 :: (R.take (W.idxOf f) ++ R.drop (W.idxOf f + 1)) else f :: R.take (n - 1)
noncomputable def tell (f : Int) (W R : List Int) : Int := if f ∈ W then R.getD (W.idxOf f) 0 else f
theorem mv_len {n : Nat} (hn : 1 ≤ n) {f : Int} {W R : List Int} (h1 : W.length = n) (h2 : R.length = n) : (mvR n f W R).length = n := by
  unfold mvR
  split
  · rename_i h
    have := List.idxOf_lt_length_iff.mpr h
    simp only [List.length_cons, List.length_append, List.length_take, List.length_drop]; omega
  · simp only [List.length_cons, List.length_take]; omega
theorem take_drop_erase (f : Int) : ∀ (W : List Int), f ∈ W → W.take (W.idxOf f) ++ W.drop (W.idxOf f + 1) = W.erase f
  | [], h => nomatch h
  | a :: W, h => by
    by_cases e : a = f
    · subst e; simp
    · have hb : (a == f) = false := by simpa using e
      rw [List.idxOf_cons, hb, List.erase_cons_tail (by simpa using e)]
      show a :: (W.take (W.idxOf f) ++ W.drop (W.idxOf f + 1)) = _
      rw [take_drop_erase f W ((List.mem_cons.mp h).elim (fun q => absurd q.symm e) id)]
theorem getD_idxOf (f : Int) {W : List Int} (h : f ∈ W) : W.getD (W.idxOf f) 0 = f := by
  have hl := List.idxOf_lt_length_iff.mpr h
  simp [List.getD, hl]
theorem mv_self {n : Nat} (hn : 1 ≤ n) {k f : Int} {W : List Int} (hk : k ≠ 0) (hw : W.length = n) : mvR n f W W = (stepX k f W).take n := by
  obtain ⟨m, rfl⟩ : ∃ m, n = m + 1 := ⟨n - 1, by omega⟩
  unfold mvR stepX
  rw [if_neg (fun q : k = 0 ∧ _ => hk q.1)]
  split
  · rename_i h
    rw [getD_idxOf f h, take_drop_erase f W h, List.take_of_length_le]
    rw [List.length_cons, List.length_erase_of_mem h]; omega
  · rename_i h
    rw [List.erase_of_not_mem h]; rfl
theorem tell_self {f : Int} {W : List Int} : tell f W W = f := by
  unfold tell; split
  · rename_i h; exact getD_idxOf f h
  · rfl
theorem mv_old (f g : Int) (hg : g ≠ f) : ∀ (W R : List Int), f ∈ W → g ∈ W → W.length = R.length → (R.take (W.idxOf f) ++ R.drop (W.idxOf f + 1)).getD ((W.erase f).idxOf g) 0 = R.getD (W.idxOf g) 0
  | [], _, h, _, _ => nomatch h
  | a :: W, [], _, _, h => by simp at h
  | a :: W, r :: R, h, h', hl => by
    have hl' : W.length = R.length := by simpa using hl
    by_cases e : a = f
    · subst e
      have hb : (a == g) = false := by simpa using fun q => hg q.symm
      simp only [List.idxOf_cons_self, List.take_zero, List.nil_append, List.erase_cons_head, List.idxOf_cons, hb, cond_false]
      rfl
    · have hb : (a == f) = false := by simpa using e
      have hf : f ∈ W := (List.mem_cons.mp h).elim (fun q => absurd q.symm e) id
      rw [show (a :: W).idxOf f = W.idxOf f + 1 from by rw [List.idxOf_cons, hb]; rfl, List.erase_cons_tail (by simpa using e), List.idxOf_cons, List.idxOf_cons]
      by_cases e2 : a = g
      · subst e2; simp
      · have hb2 : (a == g) = false := by simpa using e2
        simp only [hb2, cond_false]
        exact mv_old f g hg W R hf ((List.mem_cons.mp h').elim (fun q => absurd q.symm e2) id) hl'
theorem mv_cut (g : Int) : ∀ (m : Nat) (W R : List Int), g ∈ W.take m → (R.take m).getD ((W.take m).idxOf g) 0 = R.getD (W.idxOf g) 0
  | 0, W, R, h => by simp at h
  | m + 1, [], R, h => by simp at h
  | m + 1, a :: W, [], h => by simp [List.getD]
  | m + 1, a :: W, r :: R, h => by
    rw [List.take_succ_cons, List.take_succ_cons, List.idxOf_cons, List.idxOf_cons]
    by_cases e2 : a = g
    · subst e2; simp
    · have hb2 : (a == g) = false := by simpa using e2
      simp only [hb2, cond_false]
      exact mv_cut g m W R (by rw [List.take_succ_cons] at h; exact (List.mem_cons.mp h).elim (fun q => absurd q.symm e2) id)
structure Inv (n : Nat) (bs os : List Int) (mn : Int → Option Int) (W R : List Int) : Prop where
  lw : W.length = n
  lr : R.length = n
  new : ∀ g ∈ W, mn g = none → g ∈ bs ∧ R.getD (W.idxOf g) 0 = os.getD (bs.idxOf g) 0
  old : ∀ g ∈ W, ∀ x, mn g = some x → R.getD (W.idxOf g) 0 = x
theorem inv_put {n : Nat} (hn : 1 ≤ n) {bs os : List Int} {mn : Int → Option Int} {W R : List Int} {f x : Int} (I : Inv n bs os mn W R) (hx : x = tell f W R) : Inv n bs os (putM mn f x) (mvR n f W W) (mvR n f W R) := by
  obtain ⟨m, rfl⟩ : ∃ m, n = m + 1 := ⟨n - 1, by omega⟩
  have key : ∀ g ∈ mvR (m + 1) f W W, (g = f ∧ (mvR (m + 1) f W R).getD ((mvR (m + 1) f W W).idxOf g) 0 = tell f W R) ∨ (g ≠ f ∧ g ∈ W ∧ (mvR (m + 1) f W R).getD ((mvR (m + 1) f W W).idxOf g) 0 = R.getD (W.idxOf g) 0) := by
    intro g hg
    by_cases hfW : f ∈ W
    · have hW : mvR (m + 1) f W W = f :: W.erase f := by unfold mvR; rw [if_pos hfW, getD_idxOf f hfW, take_drop_erase f W hfW]
      have hR : mvR (m + 1) f W R = tell f W R :: (R.take (W.idxOf f) ++ R.drop (W.idxOf f + 1)) := by unfold mvR tell; rw [if_pos hfW, if_pos hfW]
      rw [hW] at hg ⊢
      rw [hR]
      by_cases e : g = f
      · subst e; exact .inl ⟨rfl, by simp⟩
      · have hgE : g ∈ W.erase f := (List.mem_cons.mp hg).elim (fun q => absurd q e) id
        have hgW : g ∈ W := List.mem_of_mem_erase hgE
        have hb : (f == g) = false := by simpa using fun q => e q.symm
        refine .inr ⟨e, hgW, ?_⟩
        rw [List.idxOf_cons, hb]
        exact mv_old f g e W R hfW hgW (by rw [I.lw, I.lr])
    · have hW : mvR (m + 1) f W W = f :: W.take m := by unfold mvR; rw [if_neg hfW]; rfl
      have hR : mvR (m + 1) f W R = tell f W R :: R.take m := by unfold mvR tell; rw [if_neg hfW, if_neg hfW]; rfl
      rw [hW] at hg ⊢
      rw [hR]
      by_cases e : g = f
      · subst e; exact .inl ⟨rfl, by simp⟩
      · have hgE : g ∈ W.take m := (List.mem_cons.mp hg).elim (fun q => absurd q e) id
        have hb : (f == g) = false := by simpa using fun q => e q.symm
        refine .inr ⟨e, List.mem_of_mem_take hgE, ?_⟩
        rw [List.idxOf_cons, hb]
        exact mv_cut g m W R hgE
  refine ⟨mv_len (by omega) I.lw I.lw, mv_len (by omega) I.lw I.lr, fun g hg hmn => ?_, fun g hg y hmn => ?_⟩
  · rcases key g hg with ⟨rfl, h⟩ | ⟨e, hgW, h⟩
    · unfold putM at hmn; rw [if_pos rfl] at hmn; cases hmn
    · unfold putM at hmn; rw [if_neg e] at hmn
      rw [h]; exact I.new g hgW hmn
  · rcases key g hg with ⟨rfl, h⟩ | ⟨e, hgW, h⟩
    · unfold putM at hmn; rw [if_pos rfl] at hmn; cases hmn
      rw [h, hx]
    · unfold putM at hmn; rw [if_neg e] at hmn
      rw [h]; exact I.old g hgW y hmn
theorem putM_self {mn : Int → Option Int} {f x : Int} (h : mn f = some x) : putM mn f x = mn := by
  funext y; unfold putM; split
  · rename_i e; rw [e, h]
  · rfl
theorem inv_step {n : Nat} (hn : 1 ≤ n) {bs os : List Int} {st : (Int → Option Int) × List Int} {W R : List Int} {k f : Int} (I : Inv n bs os st.1 W R) :
    Inv n bs os (heardStep bs os st (W, (k, f))).1 (mvR n f W W) (mvR n f W R) ∧ (heardStep bs os st (W, (k, f))).2 = st.2 ++ [tell f W R] := by
  by_cases hfW : f ∈ W
  · have ht : tell f W R = R.getD (W.idxOf f) 0 := if_pos hfW
    cases hq : st.1 f with
    | none =>
      have e : heardStep bs os st (W, (k, f)) = (putM st.1 f (os.getD (bs.idxOf f) 0), st.2 ++ [os.getD (bs.idxOf f) 0]) := by
        unfold heardStep
        simp only [hfW, not_true, if_false, hq, if_true]
        simp [putM]
      have h2 := (I.new f hfW hq).2
      rw [e, ← h2, ← ht]
      exact ⟨inv_put hn I rfl, rfl⟩
    | some x =>
      have e : heardStep bs os st (W, (k, f)) = (st.1, st.2 ++ [x]) := by
        unfold heardStep
        simp only [hfW, not_true, if_false, hq]
        simp [hq]
      have h2 := I.old f hfW x hq
      rw [e, ht, h2]
      have := inv_put hn I (f := f) (x := x) (by rw [ht, h2])
      rw [putM_self hq] at this
      exact ⟨this, rfl⟩
  · have ht : tell f W R = f := if_neg hfW
    have e : heardStep bs os st (W, (k, f)) = (putM st.1 f f, st.2 ++ [f]) := by
      unfold heardStep
      simp only [hfW, not_false_iff, if_true]
      simp [putM]
    rw [e, ht]
    exact ⟨inv_put hn I ht.symm, rfl⟩
noncomputable def pairStep (n : Nat) (st : (List Int × List Int) × List Int) (p : Int × Int) : (List Int × List Int) × List Int :=
  ((mvR n p.2 st.1.1 st.1.1, mvR n p.2 st.1.1 st.1.2), st.2 ++ [tell p.2 st.1.1 st.1.2])
noncomputable def pairS (n : Nat) (b o : List Int) (run : List (Int × Int)) (i : Nat) : (List Int × List Int) × List Int := (run.take i).foldl (pairStep n) ((b, o), [])
theorem pairS_succ {n : Nat} {b o : List Int} {run : List (Int × Int)} {i : Nat} (h : i < run.length) : pairS n b o run (i + 1) = pairStep n (pairS n b o run i) run[i] := by
  unfold pairS
  rw [List.take_add_one, List.getElem?_eq_getElem h, List.foldl_append]; rfl
theorem pair_inv {n : Nat} (hn : 1 ≤ n) {b o : List Int} (hb : b.length = n) (ho : o.length = n) {run : List (Int × Int)} {rows : List (List Int)} (hr : ∀ i, i ≤ run.length → rows[i]? = some (pairS n b o run i).1.1) :
    ∀ i, i ≤ run.length → Inv n b o (heardS b o run rows i).1 (pairS n b o run i).1.1 (pairS n b o run i).1.2 ∧ (heardS b o run rows i).2 = (pairS n b o run i).2
  | 0, _ => ⟨⟨hb, ho, fun g hg _ => ⟨hg, rfl⟩, fun g hg x h => by cases h⟩, rfl⟩
  | i + 1, hi => by
    obtain ⟨I, h2⟩ := pair_inv hn hb ho hr i (by omega)
    have hs := heardS_succ (bs := b) (os := o) (hr i (by omega)) (List.getElem?_eq_getElem (by omega : i < run.length))
    have h := inv_step hn (k := run[i].1) (f := run[i].2) I
    rw [hs, pairS_succ (by omega)]
    refine ⟨h.1, ?_⟩
    rw [h.2, h2]; rfl
theorem pair_heardOk {n : Nat} (hn : 1 ≤ n) {b o : List Int} (hb : b.length = n) (ho : o.length = n) {run : List (Int × Int)} {rows : List (List Int)} (hl : rows.length = run.length + 1) (hr : ∀ i, i ≤ run.length → rows[i]? = some (pairS n b o run i).1.1) : HeardOk b o run rows := by
  refine ⟨by omega, by omega, fun i row p h1 h2 hm hq => ?_⟩
  have hi : i < run.length := (List.getElem?_eq_some_iff.mp h2).1
  obtain ⟨I, _⟩ := pair_inv hn hb ho hr i (by omega)
  have := hr i (by omega)
  rw [h1] at this; cases this
  exact (I.new _ hm hq).1
/-- the rows are the writer's -/
theorem pair_rows {n : Nat} (hn : 1 ≤ n) {b o : List Int} (hb : b.length = n) {run : List (Int × Int)} (hk : ∀ p ∈ run, p.1 ≠ 0) : ∀ i, i ≤ run.length → (pairS n b o run i).1.1 = rowX n b (run.take i) ∧ (rowX n b (run.take i)).length = n
  | 0, _ => ⟨rfl, hb⟩
  | i + 1, hi => by
    obtain ⟨h1, h2⟩ := pair_rows hn (o := o) hb hk i (by omega)
    have h3 : run.take (i + 1) = run.take i ++ [run[i]] := by rw [List.take_add_one, List.getElem?_eq_getElem (by omega)]; rfl
    have h4 : rowX n b (run.take (i + 1)) = (stepX run[i].1 run[i].2 (rowX n b (run.take i))).take n := by
      unfold rowX; rw [h3, List.foldl_append]; rfl
    have h5 := mv_self hn (k := run[i].1) (f := run[i].2) (hk _ (List.getElem_mem (by omega))) h2
    rw [pairS_succ (by omega), h4, ← h5]
    refine ⟨?_, mv_len hn h2 h2⟩
    show mvR n run[i].2 (pairS n b o run i).1.1 (pairS n b o run i).1.1 = _
    rw [h1]
theorem mv_all {P : Int → Prop} {n : Nat} {f : Int} {W R : List Int} (hl : W.length = R.length) (hf : P f) (hR : ∀ x ∈ R, P x) : (∀ x ∈ mvR n f W R, P x) ∧ P (tell f W R) := by
  have ht : P (tell f W R) := by
    unfold tell; split
    · rename_i h
      have := List.idxOf_lt_length_iff.mpr h
      have h2 : R.getD (W.idxOf f) 0 = R[W.idxOf f]'(by omega) := by simp [List.getD, show W.idxOf f < R.length by omega]
      rw [h2]; exact hR _ (List.getElem_mem _)
    · exact hf
  refine ⟨fun x hx => ?_, ht⟩
  unfold mvR at hx
  unfold tell at ht
  split at hx
  · rename_i h
    rw [if_pos h] at ht
    rcases List.mem_cons.mp hx with rfl | hx
    · exact ht
    · rcases List.mem_append.mp hx with hx | hx
      · exact hR _ (List.mem_of_mem_take hx)
      · exact hR _ (List.mem_of_mem_drop hx)
  · rcases List.mem_cons.mp hx with rfl | hx
    · exact hf
    · exact hR _ (List.mem_of_mem_take hx)
theorem off_named (a b c f k : Int) (_hf : 1 ≤ f) (_hk : 0 ≤ k) : valueO a b c f k = namedV (a, b, c) f k := by
  by_cases h : 0 < k
  · have e1 : (toldBy a b c 1 k).1 = a := by unfold toldBy; simp [h]
    have e2 : (toldBy a b c 2 k).1 = b := by unfold toldBy; simp [h]
    have e3 : (toldBy a b c 3 k).1 = c := by unfold toldBy; simp [h]
    unfold valueO namedV namedL tripL
    rw [e1, e2, e3]
    simp only [h, if_true, List.mem_cons, List.not_mem_nil, or_false, List.idxOf_cons, List.idxOf_nil]
    by_cases h1 : a = f
    · subst h1; simp
    · by_cases h2 : b = f
      · subst h2
        have hb : (a == b) = false := by simpa using h1
        simp [h1, hb]
      · by_cases h3 : c = f
        · subst h3
          have hb : (a == c) = false := by simpa using h1
          have hb2 : (b == c) = false := by simpa using h2
          simp [h1, h2, hb, hb2]
        · have n1 : ¬ f = a := fun q => h1 q.symm
          have n2 : ¬ f = b := fun q => h2 q.symm
          have n3 : ¬ f = c := fun q => h3 q.symm
          simp [h1, h2, h3, n1, n2, n3]
  · have e1 : (toldBy a b c 1 k).1 = b := by unfold toldBy; simp [h]
    have e2 : (toldBy a b c 2 k).1 = c := by unfold toldBy; simp [h]
    have e3 : (toldBy a b c 3 k).1 = a - 1 := by unfold toldBy; simp [h]
    unfold valueO namedV namedL
    rw [e1, e2, e3]
    simp only [h, if_false, List.mem_cons, List.not_mem_nil, or_false, List.idxOf_cons, List.idxOf_nil]
    by_cases h1 : b = f
    · subst h1; simp
    · by_cases h2 : c = f
      · subst h2
        have hb : (b == c) = false := by simpa using h1
        simp [h1, hb]
      · by_cases h3 : a - 1 = f
        · subst h3
          have hb : (b == a - 1) = false := by simpa using h1
          have hb2 : (c == a - 1) = false := by simpa using h2
          simp [h1, h2, hb, hb2]
        · have n1 : ¬ f = b := fun q => h1 q.symm
          have n2 : ¬ f = c := fun q => h2 q.symm
          have n3 : ¬ f = a - 1 := fun q => h3 q.symm
          simp [h1, h2, h3, n1, n2, n3]
theorem value_told {a b c d lit : Int} (h : 1 ≤ d) : (toldBy a b c (valueO a b c d lit) lit).1 = d := by
  unfold valueO; split
  · assumption
  · split
    · assumption
    · split
      · assumption
      · rw [tb_hi (by omega)]; show d + 3 - 3 = d; omega
/-- one turn, with literals ahead: reader and writer -/
theorem off_turn (a b c x y z f k : Int) (hf : 1 ≤ f) (hk : 0 < k) :
    (toldBy x y z (valueO a b c f k) k).1 = tell f [a, b, c] [x, y, z] ∧ tripL (moveO x y z (toldBy x y z (valueO a b c f k) k).1 (toldBy x y z (valueO a b c f k) k).2) = mvR 3 f [a, b, c] [x, y, z] := by
  have e1 : (toldBy a b c 1 k).1 = a := by unfold toldBy; simp [hk]
  have e2 : (toldBy a b c 2 k).1 = b := by unfold toldBy; simp [hk]
  have e3 : (toldBy a b c 3 k).1 = c := by unfold toldBy; simp [hk]
  by_cases h1 : a = f
  · have hv : valueO a b c f k = 1 := by unfold valueO; rw [e1, if_pos h1]
    have ht : toldBy x y z 1 k = (x, 0) := by unfold toldBy; simp [hk]
    subst h1
    rw [hv, ht]
    simp [tell, mvR, moveO, tripL]
  · by_cases h2 : b = f
    · have hv : valueO a b c f k = 2 := by unfold valueO; rw [e1, if_neg h1, e2, if_pos h2]
      have ht : toldBy x y z 2 k = (y, 1) := by unfold toldBy; simp [hk]
      subst h2
      have hb : (a == b) = false := by simpa using h1
      rw [hv, ht]
      simp [tell, mvR, moveO, tripL, List.idxOf_cons, hb]
    · by_cases h3 : c = f
      · have hv : valueO a b c f k = 3 := by unfold valueO; rw [e1, if_neg h1, e2, if_neg h2, e3, if_pos h3]
        have ht : toldBy x y z 3 k = (z, 2) := by unfold toldBy; simp [hk]
        subst h3
        have hb : (a == c) = false := by simpa using h1
        have hb2 : (b == c) = false := by simpa using h2
        rw [hv, ht]
        simp [tell, mvR, moveO, tripL, List.idxOf_cons, hb, hb2]
      · have hv : valueO a b c f k = f + 3 := by unfold valueO; rw [e1, if_neg h1, e2, if_neg h2, e3, if_neg h3]
        have ht : toldBy x y z (f + 3) k = (f, 3) := by rw [tb_hi (by omega)]; congr 1; omega
        have n1 : ¬ f = a := fun q => h1 q.symm
        have n2 : ¬ f = b := fun q => h2 q.symm
        have n3 : ¬ f = c := fun q => h3 q.symm
        have hm : f ∉ [a, b, c] := by simp [n1, n2, n3]
        rw [hv, ht]
        simp [tell, mvR, moveO, tripL, hm]
/-- one turn, the writer's row -/
theorem off_row (a b c f k : Int) (hf : 1 ≤ f) (hk : 0 ≤ k) : tripL (moveO a b c f (toldBy a b c (valueO a b c f k) k).2) = (stepX k f [a, b, c]).take 3 := by
  by_cases h : 0 < k
  · have := (off_turn a b c a b c f k hf h).2
    rw [value_told hf] at this
    rw [this]; exact mv_self (n := 3) (by omega) (by omega) rfl
  · have hk0 : k = 0 := by omega
    have e1 : (toldBy a b c 1 k).1 = b := by unfold toldBy; simp [h]
    have e2 : (toldBy a b c 2 k).1 = c := by unfold toldBy; simp [h]
    have e3 : (toldBy a b c 3 k).1 = a - 1 := by unfold toldBy; simp [h]
    have hp : (toldBy a b c (valueO a b c f k) k).2 = if b = f then 1 else if c = f then 2 else 3 := by
      unfold valueO
      rw [e1, e2, e3]
      by_cases h1 : b = f
      · rw [if_pos h1, if_pos h1]; unfold toldBy; simp [h]
      · rw [if_neg h1, if_neg h1]
        by_cases h2 : c = f
        · rw [if_pos h2, if_pos h2]; unfold toldBy; simp [h]
        · rw [if_neg h2, if_neg h2]
          by_cases h3 : a - 1 = f
          · rw [if_pos h3]; unfold toldBy; simp [h]
          · rw [if_neg h3, tb_hi (by omega)]
    rw [hp]
    unfold stepX moveO tripL
    simp only [hk0, true_and, List.head?_cons, Option.some.injEq, List.tail_cons]
    by_cases h0 : a = f
    · subst h0
      by_cases h1 : b = a
      · subst h1; simp
      · have hb : (b == a) = false := by simpa using h1
        by_cases h2 : c = a
        · subst h2; simp [h1]
        · have hc : (c == a) = false := by simpa using h2
          simp [h1, h2, hb, hc]
    · have ha : (a == f) = false := by simpa using h0
      by_cases h1 : b = f
      · subst h1; simp [h0, ha]
      · have hb : (b == f) = false := by simpa using h1
        by_cases h2 : c = f
        · subst h2; simp [h0, h1, ha, hb]
        · have hc : (c == f) = false := by simpa using h2
          simp [h0, h1, h2, ha, hb, hc]
theorem offS_pair {b o : T3} {run : List (Int × Int)} (hf : ∀ p ∈ run, 1 ≤ p.2 ∧ 0 < p.1) : ∀ i, i ≤ run.length →
    tripL (offS b o run i).1.1 = (pairS 3 (tripL b) (tripL o) run i).1.1 ∧ tripL (offS b o run i).1.2 = (pairS 3 (tripL b) (tripL o) run i).1.2 ∧ (offS b o run i).2 = (pairS 3 (tripL b) (tripL o) run i).2
  | 0, _ => ⟨rfl, rfl, rfl⟩
  | i + 1, hi => by
    obtain ⟨h1, h2, h3⟩ := offS_pair hf i (by omega)
    obtain ⟨hf1, hf2⟩ := hf _ (List.getElem_mem (by omega : i < run.length))
    rw [offS_succ (by omega), pairS_succ (by omega)]
    generalize offS b o run i = st at *
    generalize pairS 3 (tripL b) (tripL o) run i = sp at *
    obtain ⟨⟨⟨a, b, c⟩, ⟨x, y, z⟩⟩, l⟩ := st
    obtain ⟨⟨W, R⟩, l'⟩ := sp
    simp only at h1 h2 h3
    subst h1 h2 h3
    have ht := off_turn a b c x y z run[i].2 run[i].1 hf1 hf2
    have hw := (off_turn a b c a b c run[i].2 run[i].1 hf1 hf2).2
    rw [value_told hf1] at hw
    refine ⟨hw, ht.2, ?_⟩
    show l ++ [_] = l ++ [_]
    rw [ht.1]; rfl
theorem rowsF_eq {bs : List Int} {lates : List (List Int)} {n : Nat} {i : Nat} {X : List Int} (h : i < lates.length) (e : rowOf bs lates[i] n = X) : (rowsF bs lates n)[i]? = some X := by rw [rowsF_at h, e]
theorem rowsF_len {bs : List Int} {lates : List (List Int)} {n : Nat} : (rowsF bs lates n).length = lates.length := by unfold rowsF; simp
theorem offOk_run {b o : T3} {run : List (Int × Int)} {lates : List (List Int)} (hf : ∀ p ∈ run, 1 ≤ p.2 ∧ 0 < p.1 ∧ p.1 < 1000) (ho : ∀ x ∈ tripL o, 1 ≤ x) (hl : lates.length = run.length + 1) (hls : ∀ i (hi : i < lates.length), lates[i] = lateF (run.take i)) : OffOk b o run lates := by
  have hf' : ∀ p ∈ run, 1 ≤ p.2 ∧ 0 < p.1 := fun p hp => ⟨(hf p hp).1, (hf p hp).2.1⟩
  have hk : ∀ p ∈ run, p.1 ≠ 0 := fun p hp e => by have := (hf p hp).2.1; omega
  have hrow : ∀ i (hi : i < lates.length), rowOf (tripL b) lates[i] 3 = (pairS 3 (tripL b) (tripL o) run i).1.1 := fun i hi => by
    rw [hls i hi, row_run (n := 3) (by omega) (tripL b) rfl run hk i (by omega), (pair_rows (n := 3) (by omega) (o := tripL o) rfl hk i (by omega)).1]
  have hr : ∀ i, i ≤ run.length → (rowsF (tripL b) lates 3)[i]? = some (pairS 3 (tripL b) (tripL o) run i).1.1 := fun i hi => rowsF_eq (by omega) (hrow i (by omega))
  have hpos : ∀ i, i ≤ run.length → ∀ x ∈ (pairS 3 (tripL b) (tripL o) run i).1.2, 1 ≤ x := by
    intro i
    induction i with
    | zero => exact fun _ => ho
    | succ i ih =>
      intro hi
      have I := (pair_inv (n := 3) (by omega) rfl rfl hr i (by omega)).1
      rw [pairS_succ (by omega)]
      exact (mv_all (by rw [I.lw, I.lr]) (hf _ (List.getElem_mem (by omega : i < run.length))).1 (ih (by omega))).1
  refine ⟨fun p hp => ⟨(hf p hp).1, by have := (hf p hp).2.1; omega, (hf p hp).2.2⟩, fun i hi => ?_, fun i hi => ?_, fun i hi => ?_, ?_, ?_⟩
  · rw [hrow i hi, (offS_pair hf' i (by omega)).1]
  · have h := hf' _ (List.getElem_mem hi)
    exact off_named _ _ _ _ _ h.1 (by omega)
  · have h := hf' _ (List.getElem_mem hi)
    obtain ⟨h1, h2, _⟩ := offS_pair (b := b) (o := o) hf' i (by omega)
    have I := (pair_inv (n := 3) (by omega) rfl rfl hr i (by omega)).1
    have hp := (mv_all (n := 3) (P := fun x => 1 ≤ x) (f := run[i].2) (by rw [I.lw, I.lr]) h.1 (hpos i (by omega))).2
    rw [(off_turn _ _ _ _ _ _ _ _ h.1 h.2).1]
    have e1 : [(offS b o run i).1.1.1, (offS b o run i).1.1.2.1, (offS b o run i).1.1.2.2] = tripL (offS b o run i).1.1 := rfl
    have e2 : [(offS b o run i).1.2.1, (offS b o run i).1.2.2.1, (offS b o run i).1.2.2.2] = tripL (offS b o run i).1.2 := rfl
    rw [e1, e2, h1, h2]
    omega
  · rw [(offS_pair hf' _ (Nat.le_refl _)).2.2, ← (pair_inv (n := 3) (by omega) rfl rfl hr _ (Nat.le_refl _)).2]; rfl
  · exact pair_heardOk (n := 3) (by omega) rfl rfl (by rw [rowsF_len, hl]) hr
/-- the reader begins as the writer did -/
theorem offS_same {b : T3} {run : List (Int × Int)} (hf : ∀ p ∈ run, 1 ≤ p.2 ∧ 0 ≤ p.1) : ∀ i, i ≤ run.length →
    (offS b b run i).1.2 = (offS b b run i).1.1 ∧ tripL (offS b b run i).1.1 = rowX 3 (tripL b) (run.take i) ∧ (offS b b run i).2 = (run.take i).map (·.2)
  | 0, _ => ⟨rfl, rfl, rfl⟩
  | i + 1, hi => by
    obtain ⟨h1, h2, h3⟩ := offS_same hf i (by omega)
    obtain ⟨hf1, hf2⟩ := hf _ (List.getElem_mem (by omega : i < run.length))
    have h4 : run.take (i + 1) = run.take i ++ [run[i]] := by rw [List.take_add_one, List.getElem?_eq_getElem (by omega)]; rfl
    rw [offS_succ (by omega), h4, List.map_append]
    have h5 : rowX 3 (tripL b) (run.take i ++ [run[i]]) = (stepX run[i].1 run[i].2 (rowX 3 (tripL b) (run.take i))).take 3 := by
      unfold rowX; rw [List.foldl_append]; rfl
    rw [h5, ← h2, ← h3]
    generalize offS b b run i = st at *
    obtain ⟨⟨⟨a, b, c⟩, R⟩, l⟩ := st
    simp only at h1
    subst h1
    refine ⟨?_, ?_, ?_⟩
    · show moveO _ _ _ (toldBy a b c (valueO a b c run[i].2 run[i].1) run[i].1).1 _ = moveO _ _ _ run[i].2 _
      rw [value_told hf1]
    · exact off_row a b c _ _ hf1 hf2
    · show l ++ [(toldBy a b c (valueO a b c run[i].2 run[i].1) run[i].1).1] = _
      rw [value_told hf1]; rfl
theorem stepX_mem {k f g : Int} {X : List Int} (h : g ∈ stepX k f X) : g = f ∨ g ∈ X := by
  unfold stepX at h
  split at h
  · rcases List.mem_cons.mp h with h | h
    · exact .inl h
    · rcases List.mem_cons.mp h with h | h
      · exact .inl h
      · exact .inr (List.mem_of_mem_tail (List.mem_of_mem_erase h))
  · rcases List.mem_cons.mp h with h | h
    · exact .inl h
    · exact .inr (List.mem_of_mem_erase h)
theorem heard_same {n : Nat} {b : List Int} {run : List (Int × Int)} {rows : List (List Int)} (hr : ∀ i, i ≤ run.length → rows[i]? = some (rowX n b (run.take i))) : ∀ i, i ≤ run.length →
    (heardS b b run rows i).2 = (run.take i).map (·.2) ∧ (∀ g x, (heardS b b run rows i).1 g = some x → x = g) ∧ ∀ g ∈ rowX n b (run.take i), (heardS b b run rows i).1 g = none → g ∈ b
  | 0, _ => ⟨rfl, (fun g x h => nomatch (h : (none : Option Int) = some x)), fun g hg _ => hg⟩
  | i + 1, hi => by
    obtain ⟨h1, h2, h3⟩ := heard_same hr i (by omega)
    have hs := heardS_succ (bs := b) (os := b) (hr i (by omega)) (List.getElem?_eq_getElem (by omega : i < run.length))
    have h4 : run.take (i + 1) = run.take i ++ [run[i]] := by rw [List.take_add_one, List.getElem?_eq_getElem (by omega)]; rfl
    have h5 : rowX n b (run.take i ++ [run[i]]) = (stepX run[i].1 run[i].2 (rowX n b (run.take i))).take n := by
      unfold rowX; rw [List.foldl_append]; rfl
    rw [hs, h4, h5, List.map_append, ← h1]
    generalize heardS b b run rows i = st at *
    generalize rowX n b (run.take i) = W at *
    obtain ⟨mn, l⟩ := st
    simp only at h2 h3
    have fin : heardStep b b (mn, l) (W, run[i]) = (putM mn run[i].2 run[i].2, l ++ [run[i].2]) := by
      by_cases hfW : run[i].2 ∈ W
      · cases hq : mn run[i].2 with
        | none =>
          have e : b.getD (b.idxOf run[i].2) 0 = run[i].2 := getD_idxOf _ (h3 _ hfW hq)
          unfold heardStep
          simp only [hfW, not_true, if_false, hq, if_true, e]
          simp [putM]
        | some x =>
          have e := h2 _ _ hq
          subst e
          unfold heardStep
          simp only [hfW, not_true, if_false, hq]
          rw [putM_self hq]
          simp [hq]
      · unfold heardStep
        simp only [hfW, not_false_iff, if_true]
        simp [putM]
    rw [fin]
    refine ⟨rfl, fun g x h => ?_, fun g hg h => ?_⟩
    · simp only [putM] at h
      split at h
      · rename_i e; cases h; exact e.symm
      · exact h2 g x h
    · simp only [putM] at h
      split at h
      · cases h
      · rename_i e
        exact h3 g ((stepX_mem (List.mem_of_mem_take hg)).resolve_left e) h
theorem offOk_bare {b : T3} {run : List (Int × Int)} {lates : List (List Int)} (hf : ∀ p ∈ run, 1 ≤ p.2 ∧ 0 ≤ p.1 ∧ p.1 < 1000) (hl : lates.length = run.length + 1) (hls : ∀ i (hi : i < lates.length), lates[i] = lateF ((1, b.1) :: run.take i)) : OffOk b b run lates := by
  have hf' : ∀ p ∈ run, 1 ≤ p.2 ∧ 0 ≤ p.1 := fun p hp => ⟨(hf p hp).1, (hf p hp).2.1⟩
  have hrow : ∀ i (hi : i < lates.length), rowOf (tripL b) lates[i] 3 = rowX 3 (tripL b) (run.take i) := fun i hi => by
    rw [hls i hi, row_bare (n := 3) (by omega) (tripL b) rfl b.1 rfl run i (by omega)]
  have hr : ∀ i, i ≤ run.length → (rowsF (tripL b) lates 3)[i]? = some (rowX 3 (tripL b) (run.take i)) := fun i hi => rowsF_eq (by omega) (hrow i (by omega))
  refine ⟨hf, fun i hi => ?_, fun i hi => ?_, fun i hi => ?_, ?_, ?_⟩
  · rw [hrow i hi, (offS_same hf' i (by omega)).2.1]
  · have h := hf' _ (List.getElem_mem hi)
    exact off_named _ _ _ _ _ h.1 h.2
  · have h := hf' _ (List.getElem_mem hi)
    rw [(offS_same hf' i (by omega)).1, value_told h.1]; omega
  · rw [(offS_same hf' _ (Nat.le_refl _)).2.2]
    exact (heard_same hr _ (Nat.le_refl _)).1.symm
  · refine ⟨rfl, by rw [rowsF_len]; omega, fun i row p h1 h2 hm hq => ?_⟩
    have hi : i < run.length := (List.getElem?_eq_some_iff.mp h2).1
    have := hr i (by omega)
    rw [h1] at this; cases this
    exact (heard_same hr i (by omega)).2.2 _ hm hq

theorem word56 : True := by
  (k_with "w:call ref" => row_timed "z" ((k_here; (with_reducible show wpAny _ _ (call (Value.ref 225) _) _ _ _); (k_dflt (refine' does_use0 (cut_does _ _ _ ?z9h2 ?z9hn) ?z9cx ?z9F ?z9N ?z9hp ?z9hdp ?z9hun ?_)); (case z9cx => k_dflt k_asm); (case z9F => k_dflt k_asm); (case z9N => k_dflt k_asm); (case z9hp => k_dflt (exact trivial)); (case z9hdp => ((try dsimp only [top]); omega)); (case z9hun => ((try dsimp only [top]); omega)); (case z9h2 => omega); (case z9hn => omega); k_whole; (k_dflt (rintro z9v' z9new' z9h' z9tk' z9F' z9N' z9hnew' z9st' z9hpost'; refine (let z9G' : Prop := _; (?_ : z9G')); obtain ⟨z9l', z9t'', z9n', z9e', z9hm'⟩ := z9hpost')); subst z9e'; (replace z9N' := (z9hnew' _ z9hm').news z9N'); (have z9hne' := (z9hnew' _ z9hm').ne); (try dsimp only [AllNe] at z9hne'); clear z9hnew' z9hm' z9st'; (try k_unmd); (try k_unfold); (try dsimp only); (try k_fold))))
  trivial

section
variable {prog : Program} {w : World} {A₀ A : Around} {s : Shared} {base h₀ : Heap} {outer : List Env} {L : Addr} {m : Str → Option Value} {env : Env} {news : List (Addr × Obj)}
  {R : Result → Shared → Prop} {name qual : Str} {params : Arguments} {body : List Stmt} {scope : Scope} {dV kV doc pm cdv ct oc : Value} {an od : Option Addr} {osl : Array (Option Value)} {f : Addr} {args : Args} {binds : List (Str × Value)}
  {K : Frag} {p : Program} {loose : List Str} {mean : ExcName → Option Value} {mg mb : Str → Option Value}
/-- a def with captured names, entered; what the ledger does not name stays -/
theorem def_cells (B : Below A₀ base outer h₀) (F : Fr h₀ L s.heap m) (X₀ : K.In h₀) (N : News h₀ L s.heap news) (T : Top p loose mean mg mb h₀) (hA : A.frames = some (env :: outer)) (hf : env.frame = some L) (hke : env.scope.kind = .function)
    (ho : K.lookup f = some ⟨oc, od, .func (fnOf name qual params body scope dV kV doc pm an cdv ct), osl⟩) (hcd : codeIn K cdv qual = true) (hroom : A.depth < recursionLimit)
    (hbind : BindsTo s (fnOf name qual params body scope dV kV doc pm an cdv ct) args binds) (hkind : (binds.all fun y => scope.names.lookup y.1 == some .local || scope.names.lookup y.1 == some .cell) = true)
    (hnd : ((cellsFrom 0 scope.names []).map (·.1)).Nodup)
    (h : ∀ g L' h₁ tk cells, Fr g L' h₁ (bindL (envOfC qual scope L' f cdv).kindOf binds fun _ => none) → News g L' h₁ (cells ++ news) →
      CellsAre (bindC (envOfC qual scope L' f cdv).kindOf binds fun _ => none) (cellsFrom (L' + 1) scope.names []) cells → Below A base (env :: outer) g → K.In g → Top p loose mean mg mb g → GSub s.heap g (news.map (·.1)) → (∀ p ∈ news, p.1 < L') →
      wpAny (model prog w) (A.deeper (envOfC qual scope L' f cdv)) (execs body (envOfC qual scope L' f cdv))
        (fun fl s' => LeaveK h₀ L m g R (match fl with | .ret v => v | _ => .none) s') (fun _ _ => False) { s with heap := h₁, toks := tk })
    (hco : scope.isCoroutine = false) (hgen : scope.isGenerator = false) (hk : scope.kind = .function) : codeAny (model prog w) A (.call (.ref f) args) R s := by
  have KX := X₀.keeps F.keep
  obtain ⟨FG, BG, st, lv⟩ := groundX (R := R) B F N hA hf hke
  have hgs : GSub s.heap (hideAll s.heap (news.map (·.1))) (news.map (·.1)) := fun b o e n => hideAll_get _ e n
  refine codeAny_call_function hroom (KX _ _ ho) rfl hco hgen rfl (codeRec_of KX hcd) (hbind _ _ _ _ ?_)
  refine wpAny_newFunctionEnv_cells hk (kindsX hkind _) fun env' he s' x => ?_
  subst he
  refine ⟨(T.nolimit.keeps F.keep).keeps x.toInCall.keep, codeAny_func ?_⟩
  obtain ⟨h₁, tk, rfl, _⟩ := x.done
  have kp := x.toInCall.keep
  have hcs : ∀ n c, (n, c) ∈ cellsFrom (s.heap.objs.size + 1) scope.names [] → h₁.IsCell c (bindC (envOfC qual scope s.heap.objs.size f cdv).kindOf binds (fun _ => none) n) ∧ s.heap.objs.size < c := fun n c hm =>
    ⟨x.cell n c (lookup_of_mem_nodup (cellsFrom_names scope.names 0 (s.heap.objs.size + 1) [] [] rfl ▸ hnd) hm), x.above n c hm⟩
  obtain ⟨cells, NC, Y⟩ := Cl.news (h₀ := s.heap) (Nat.le_refl _) hcs
  have NN : News (hideAll s.heap (news.map (·.1))) s.heap.objs.size h₁ (cells ++ news) := by
    intro q hq
    rcases List.mem_append.mp hq with hq | hq
    · refine ⟨(NC q hq).1, (NC q hq).2.1, ?_⟩
      cases e : (hideAll s.heap (news.map (·.1))).get? q.1 with
      | none => rfl
      | some o => have := of_hideAll _ e; rw [(NC q hq).2.2] at this; cases this
    · exact ⟨kp _ _ (N q hq).1, Nat.ne_of_lt (Heap.lt_size (N q hq).1), hideAll_none _ (List.mem_map_of_mem hq)⟩
  exact wpAny_mono (h _ s.heap.objs.size h₁ tk cells ⟨x.toInCall.ns, fun b o e => kp b o (of_hideAll _ e), Nat.le_of_eq (hideAll_size _ _)⟩ NN Y BG (X₀.keeps st) (T.keeps st) hgs (fun q hq => Heap.lt_size (N q hq).1)) (fun fl s' hl => lv _ _ hl) fun _ _ z => z.elim
end
theorem does_ofC {w : World} {name qual : Str} {params : Arguments} {body : List Stmt} {scope : Scope} {dV kV doc pm cdv ct oc : Value} {an od : Option Addr} {osl : Array (Option Value)} {f : Addr} {args : List Value} {room : Nat}
    {touched : List (Addr × Obj)} {P : Heap → Prop} {post : Value → List (Addr × Obj) → Heap → Prop} (binds : List (Str × Value))
    (ho : (hd.heap_39 w.params).lookup f = some ⟨oc, od, .func (fnOf name qual params body scope dV kV doc pm an cdv ct), osl⟩) (hcd : codeIn (hd.heap_39 w.params) cdv qual = true)
    (hbind : ∀ s, (hd.heap_39 w.params).In s.heap → BindsTo s (fnOf name qual params body scope dV kV doc pm an cdv ct) ⟨args, []⟩ binds)
    (hkind : (binds.all fun y => scope.names.lookup y.1 == some .local || scope.names.lookup y.1 == some .cell) = true) (hnd : ((cellsFrom 0 scope.names []).map (·.1)).Nodup)
    (hco : scope.isCoroutine = false) (hgen : scope.isGenerator = false) (hk : scope.kind = .function)
    (hP : ∀ h h', GSub h h' (touched.map (·.1)) → P h → P h')
    (bodyH : ∀ {mg mb : Str → Option Value} {p : Program} {loose : List Str} {mean : ExcName → Option Value} {base : Heap} {env : Env} {outer : List Env} {dp un : Nat} {gd : Option (List Code)} {s : Shared} g L' h₁ tk cells,
      Cx w mg mb p loose mean (top dp un gd env outer) base g (envOfC qual scope L' f cdv) (env :: outer) L' → dp + room + 1 < recursionLimit → un + 8 * room + 8 < cLine → P g →
      Below (top dp un gd env outer) base (env :: outer) g → (hd.heap_39 w.params).In g → Top p loose mean mg mb g → GSub s.heap g (touched.map (·.1)) → Fr g L' h₁ (bindL (envOfC qual scope L' f cdv).kindOf binds fun _ => none) → News g L' h₁ (cells ++ touched) →
      CellsAre (bindC (envOfC qual scope L' f cdv).kindOf binds fun _ => none) (cellsFrom (L' + 1) scope.names []) cells → (∀ p ∈ touched, p.1 < L') →
      wpAny (model PR w) ((top dp un gd env outer).deeper (envOfC qual scope L' f cdv)) (execs body (envOfC qual scope L' f cdv)) (Leaf g s post) (fun _ _ => False) { s with heap := h₁, toks := tk }) :
    Does w f args (room + 1) touched P post := by
  refine ⟨?_⟩
  intro mg mb p loose mean A₀ base h₀ env outer L dp un gd m s Q E cx F N hp hdp hun ret
  have KX := cx.X.keeps F.keep
  refine wpAny_call (def_cells cx.B F cx.X N cx.T rfl cx.hf cx.hke ho hcd (by show dp < recursionLimit; omega) (hbind s KX) hkind hnd (fun g L' h₁ tk cells F' N' Y' B' X' T' G' l => ?_) hco hgen hk)
  refine wpAny_mono (bodyH g L' h₁ tk cells ⟨B', X', T', rfl, hk⟩ (by omega) (by omega) (hP _ _ G' hp) B' X' T' G' F' N' Y' l) (fun fl s' hl => ?_) fun _ _ x => x.elim
  obtain ⟨h', tk', L'', m'', news', rfl, F'', N'', hp⟩ := hl
  refine ⟨L'', m'', news', F'', N'', fun _ _ => ret _ news' h' tk' (fun b o e hb => F''.keep b o (G' b o e hb)) (fun q hq => ⟨(N'' q hq).1, ?_⟩) hp⟩
  by_cases hb : q.1 ∈ touched.map (·.1)
  · exact .inl hb
  · refine .inr ?_
    cases e : s.heap.get? q.1 with
    | none => rfl
    | some o => exact absurd (G' _ _ e hb) (by rw [(N'' q hq).2.2]; intro x; cases x)


theorem eval_block {prog : Program} {w : World} {A : Around} {E : Value → Shared → Prop} {s : Shared} {x : Str} {pos : Pos} {scope : Scope} {cl : List (Str × Addr)} {C L : Addr} {env : Env} {oC : Obj} {mC : Str → Option Value} {h₀ : Heap} {news : List (Addr × Obj)} {v : Value} {Q : Value → Shared → Prop}
    (N : News h₀ L s.heap news) (hm : (C, oC) ∈ news) (ns : NsObj oC mC) (hv : mC x = some v) (hk : (compEnvC scope cl C env).scope.kind = .function) (hl : (compEnvC scope cl C env).kindOf x = some .local) (hd : (x == ("__debug__" : Str)) = false) (h : Q v s) :
    wpAny (model prog w) A (eval (.Name x pos) (compEnvC scope cl C env)) Q E s := wpAny_Name (wpAny_loadName_local hk hl (ns_of_obj (N _ hm).1 ns) hv h) hd

theorem word57 : True := by
  (k_with "w:eval Name" => row_timed "z" ((k_here; (with_reducible show wpAny _ _ (eval (PySem.Expr.Name _ _) (compEnvC _ _ _ _)) _ _ _); (k_dflt (refine' eval_block ?z9N ?z9m ?z9n ?z9v ?z9k ?z9l ?z9d ?_)); (case z9N => k_dflt k_asm); (case z9m => k_mem); (case z9n => with_reducible assumption); (case z9v => k_dflt exact if_pos rfl); (case z9k => k_dflt exact rfl); (case z9l => k_dflt exact rfl); (case z9d => decide); k_whole)))
  trivial


noncomputable def LstIn (nx : List (Addr × Obj)) (vs : List Value) (rows : List (List Int)) : Prop := Are (fun v row => ∃ a rvs n, v = .ref a ∧ (a, listOf (List.toArray rvs) n) ∈ nx ∧ IntsAre rvs row) vs rows
theorem LstIn.more {nx nx' : List (Addr × Obj)} {vs : List Value} {rows : List (List Int)} (h : LstIn nx vs rows) (hs : ∀ p ∈ nx, p ∈ nx') : LstIn nx' vs rows := h.mono fun v row ⟨a, rvs, n, e, hm, hi⟩ => ⟨a, rvs, n, e, hs _ hm, hi⟩
theorem LstIn.at {nx : List (Addr × Obj)} {h₀ h : Heap} {L : Addr} {vs : List Value} {rows : List (List Int)} {news : List (Addr × Obj)} (x : LstIn nx vs rows) (N : News h₀ L h news) (hs : ∀ p ∈ nx, p ∈ news) : Are (IntsAt h) vs rows :=
  x.mono fun v row ⟨a, rvs, n, e, hm, hi⟩ => ⟨a, rvs, e, ⟨_, (N _ (hs _ hm)).1, rfl, _, rfl⟩, hi⟩
theorem allNe_all {d : Addr} : ∀ {l : List (Addr × Obj)}, AllNe d l → ∀ p ∈ l, p.1 ≠ d
  | [], _, p, hp => nomatch hp
  | q :: l, h, p, hp => by
    rcases List.mem_cons.mp hp with rfl | hp
    · exact h.1
    · exact allNe_all h.2 p hp
noncomputable def rowsJ (c : Addr × Obj) (bs : List Int) (lates : List (List Int)) (room : Nat) (i : Nat) (ys : List Value) (nx : List (Addr × Obj)) : Prop := ∃ rnx, nx = c :: rnx ∧ LstIn rnx ys ((lates.take i).map fun l => rowOf bs l room)
theorem rows_end {c : Addr × Obj} {bs : List Int} {lates : List (List Int)} {room i : Nat} {ys : List Value} {rnx own : List (Addr × Obj)} {h₀ h' : Heap} {L C D l' : Addr} {oC oD : Obj} {m : Str → Option Value} {vs' : List Value} {n' tk : Nat} {row : List Int} {s₁ : Shared}
    (F : Fr h₀ L h' m) (N : News h₀ L h' ((l', listOf (List.toArray vs') n') :: (C, oC) :: (D, oD) :: c :: (rnx ++ own))) (hne : AllNe l' ((C, oC) :: (D, oD) :: c :: (rnx ++ own)))
    (h1 : OwnOff own ((c :: rnx).map (·.1))) (h2 : OwnOff own [C, D]) (h3 : OwnOff (c :: rnx) [C, D]) (hJ : LstIn rnx ys ((lates.take i).map fun l => rowOf bs l room)) (hl : lates[i]? = some row) (hi : IntsAre vs' (rowOf bs row room)) :
    EltEnd h₀ L m (rowsJ c bs lates room (i + 1)) ys ((C, oC) :: (D, oD) :: own) s₁ (.ref l') { s₁ with heap := h', toks := tk } := by
  have hall := allNe_all hne
  refine elt_end (nx := c :: (l', listOf (List.toArray vs') n') :: rnx) F N ⟨_, rfl, ?_⟩ ?_ ?_ ?_
  · rw [List.take_add_one, hl]
    simp only [Option.toList_some, List.map_append, List.map_cons, List.map_nil]
    exact (hJ.more fun p hp => .tail _ hp).snoc ⟨l', vs', n', rfl, .head _, hi⟩
  · intro p hp b hb
    simp only [List.map_cons, List.mem_cons] at hb
    rcases List.mem_cons.mp hp with rfl | hp
    · rcases hb with rfl | rfl | hb
      · exact fun e => h3 c (.head _) C (.head _) e.symm
      · exact hall _ (.head _)
      · obtain ⟨q, hq, rfl⟩ := List.mem_map.mp hb
        exact fun e => h3 q (.tail _ hq) C (.head _) e.symm
    · rcases List.mem_cons.mp hp with rfl | hp
      · rcases hb with rfl | rfl | hb
        · exact fun e => h3 c (.head _) D (.tail _ (.head _)) e.symm
        · exact hall _ (.tail _ (.head _))
        · obtain ⟨q, hq, rfl⟩ := List.mem_map.mp hb
          exact fun e => h3 q (.tail _ hq) D (.tail _ (.head _)) e.symm
      · rcases hb with rfl | rfl | hb
        · exact h1 p hp _ (.head _)
        · exact hall _ (.tail _ (.tail _ (.tail _ (List.mem_append_right _ hp))))
        · exact h1 p hp b (.tail _ hb)
  · intro p hp
    rcases List.mem_cons.mp hp with rfl | hp
    · exact .tail _ (.tail _ (.tail _ (.head _)))
    · rcases List.mem_cons.mp hp with rfl | hp
      · exact .head _
      · exact .tail _ (.tail _ (.tail _ (.tail _ (List.mem_append_left _ hp))))
  · intro p hp
    rcases List.mem_cons.mp hp with rfl | hp
    · exact .tail _ (.head _)
    · rcases List.mem_cons.mp hp with rfl | hp
      · exact .tail _ (.tail _ (.head _))
      · exact .tail _ (.tail _ (.tail _ (.tail _ (List.mem_append_right _ hp))))

noncomputable def Far (a : Nat) (l : List Nat) : Prop := ∀ b ∈ l, a ≠ b
theorem far_ne {a b : Nat} {l : List Nat} (h : Far a l) (hb : b ∈ l) : a ≠ b := h b hb
theorem far_ne' {a b : Nat} {l : List Nat} (h : Far a l) (hb : b ∈ l) : b ≠ a := (h b hb).symm


theorem far_cons {a b : Nat} {l : List Nat} (h : a ≠ b) (k : Far a l) : Far a (b :: l) := List.forall_mem_cons.mpr ⟨h, k⟩
theorem far_nil (a : Nat) : Far a [] := List.forall_mem_nil _
/-- behind «named = ..» -/
noncomputable def NamedR (fr : (Str → Option Value) → Prop) (W : List Int) (fx : List Addr) (m : Str → Option Value) (nw : List (Addr × Obj)) : Prop := fr m ∧ ∃ ln lvs nn, m (Str.ofString "named") = some (.ref ln) ∧ nw = [(ln, listOf (List.toArray lvs) nn)] ∧ IntsAre lvs W ∧ Far ln fx
theorem named_end {g h' : Heap} {L : Addr} {fr : (Str → Option Value) → Prop} {W : List Int} {fx : List Addr} {s : Shared} {m' : Str → Option Value} {led all : List (Addr × Obj)} {tk : Nat} {ln : Addr} {lvs : List Value} {nn : Nat} (F : Fr g L h' m') (N : News g L h' all)
    (e : m' (Str.ofString "named") = some (.ref ln)) (hm : (ln, listOf (List.toArray lvs) nn) ∈ all) (hs : ∀ p ∈ led, p ∈ all) (hi : IntsAre lvs W) (hf : Far ln fx) (f : fr m') : LPost g L (fun m l => ∃ nw, l = nw ++ led ∧ NamedR fr W fx m nw) s .next { s with heap := h', toks := tk } :=
  lpost_new [(ln, listOf (List.toArray lvs) nn)] F N (fun p hp => by rw [List.mem_singleton.mp hp]; exact hm) hs ⟨f, ln, lvs, nn, e, rfl, hi, hf⟩
theorem named_len (W : T3) (ahead : Int) : (namedL W ahead).length = 3 := by unfold namedL; split <;> rfl

noncomputable def offD (w1 w2 w3 : Int) (k1 k2 k3 : Tok) (W : T3) (ta tb tc : Tok) : Obj := dictOf [⟨w1, .str (Str.ofString "one") k1, .int W.1 ta⟩, ⟨w2, .str (Str.ofString "two") k2, .int W.2.1 tb⟩, ⟨w3, .str (Str.ofString "three") k3, .int W.2.2 tc⟩] 3
noncomputable def offJ (D wx wd rx rd tl r ot : Addr) (c : Addr × Obj) (rnx : List (Addr × Obj)) (vs : List Value) (cnt : Nat) (h1 h2 h3 : Int) (w1 w2 w3 v1 v2 v3 : Tok) (b o : T3) (run : List (Int × Int)) (i : Nat) (m : Str → Option Value) (nx : List (Addr × Obj)) : Prop :=
  ∃ ta tb tc ta' tb' tc' tvs tn, m (Str.ofString "writer") = some (.ref wx) ∧ m (Str.ofString "reader") = some (.ref rx) ∧ m (Str.ofString "told") = some (.ref tl) ∧ m (Str.ofString "rows") = some (.ref D) ∧ m (Str.ofString "run") = some (.ref r) ∧ m (Str.ofString "other") = some (.ref ot) ∧
    nx = (tl, listOf (List.toArray tvs) tn) :: (rd, offD h1 h2 h3 v1 v2 v3 (offS b o run i).1.2 ta' tb' tc') :: (wd, offD h1 h2 h3 w1 w2 w3 (offS b o run i).1.1 ta tb tc) :: (rx, instObj 126 rd) :: (wx, instObj 126 wd) :: (D, listOf (List.toArray vs) cnt) :: c :: rnx ∧
    IntsAre tvs (offS b o run i).2 ∧ tvs.length = i
noncomputable def Seven (a b c d e f g : Nat) : Prop := Far a [b, c, d, e, f, g] ∧ Far b [c, d, e, f, g] ∧ Far c [d, e, f, g] ∧ Far d [e, f, g] ∧ Far e [f, g] ∧ Far f [g]
theorem seven_lt {a b c d e f g : Nat} (h0 : g ≠ f) (h1 : g < c) (h2 : f < c) (h3 : c < e) (h4 : e < b) (h5 : b < d) (h6 : d < a) : Seven a b c d e f g := by
  have k1 : f < e := Nat.lt_trans h2 h3
  have k2 : g < e := Nat.lt_trans h1 h3
  have k3 : c < b := Nat.lt_trans h3 h4
  have k4 : f < b := Nat.lt_trans k1 h4
  have k5 : g < b := Nat.lt_trans k2 h4
  have k6 : c < d := Nat.lt_trans k3 h5
  have k7 : e < d := Nat.lt_trans h4 h5
  have k8 : f < d := Nat.lt_trans k4 h5
  have k9 : g < d := Nat.lt_trans k5 h5
  have j1 : b < a := Nat.lt_trans h5 h6
  have j2 : c < a := Nat.lt_trans k6 h6
  have j3 : e < a := Nat.lt_trans k7 h6
  have j4 : f < a := Nat.lt_trans k8 h6
  have j5 : g < a := Nat.lt_trans k9 h6
  have z : ∀ {x y : Nat}, x < y → y ≠ x := fun h => (Nat.ne_of_lt h).symm
  exact ⟨far_cons (z j1) (far_cons (z j2) (far_cons (z h6) (far_cons (z j3) (far_cons (z j4) (far_cons (z j5) (far_nil _)))))), far_cons (z k3) (far_cons (Nat.ne_of_lt h5) (far_cons (z h4) (far_cons (z k4) (far_cons (z k5) (far_nil _))))), far_cons (Nat.ne_of_lt k6) (far_cons (Nat.ne_of_lt h3) (far_cons (z h2) (far_cons (z h1) (far_nil _)))), far_cons (z k7) (far_cons (z k8) (far_cons (z k9) (far_nil _))), far_cons (z k1) (far_cons (z k2) (far_nil _)), far_cons h0.symm (far_nil _)⟩
theorem or_norm {P : Prop} {g h : Heap} {L : Addr} {m : Str → Option Value} {Dt tl rx rd wx wd D r ot : Addr} {tup : Obj} {w1 w2 w3 v1 v2 v3 ta tb tc ta' tb' tc' : Tok} {h1 h2 h3 : Int} (b o : T3) {vs : List Value} {cnt n : Nat} {c : Addr × Obj} {rnx : List (Addr × Obj)} (run : List (Int × Int))
    (F : Fr g L h m) (N : News g L h ((Dt, tup) :: (tl, listOf (List.toArray []) n) :: (rx, instObj 126 rd) :: (rd, offD h1 h2 h3 v1 v2 v3 o ta' tb' tc') :: (wx, instObj 126 wd) :: (wd, offD h1 h2 h3 w1 w2 w3 b ta tb tc) :: (D, listOf vs.toArray cnt) :: c :: rnx))
    (e1 : m (Str.ofString "writer") = some (.ref wx)) (e2 : m (Str.ofString "reader") = some (.ref rx)) (e3 : m (Str.ofString "told") = some (.ref tl)) (e4 : m (Str.ofString "rows") = some (.ref D)) (e5 : m (Str.ofString "run") = some (.ref r)) (e6 : m (Str.ofString "other") = some (.ref ot))
    (hs : Seven tl rd wd rx wx D c.1) (ho : OwnOff rnx [tl, rd, wd, rx, wx, D])
    (k : ∀ (tl rx rd wx wd : Addr) (w1 w2 w3 v1 v2 v3 : Tok) (m : Str → Option Value) (nx : List (Addr × Obj)), Fr g L h m → News g L h nx → offJ D wx wd rx rd tl r ot c rnx vs cnt h1 h2 h3 w1 w2 w3 v1 v2 v3 b o run 0 m nx → Seven tl rd wd rx wx D c.1 → OwnOff rnx [tl, rd, wd, rx, wx, D] → P) : P := by
  refine k tl rx rd wx wd w1 w2 w3 v1 v2 v3 m ((tl, listOf (List.toArray []) n) :: (rd, offD h1 h2 h3 v1 v2 v3 o ta' tb' tc') :: (wd, offD h1 h2 h3 w1 w2 w3 b ta tb tc) :: (rx, instObj 126 rd) :: (wx, instObj 126 wd) :: (D, listOf vs.toArray cnt) :: c :: rnx) F (news_sub N ?_) ⟨ta, tb, tc, ta', tb', tc', [], n, e1, e2, e3, e4, e5, e6, rfl, IntsAre.nil, rfl⟩ hs ho
  k_extra "sub"


theorem allLt_all {d : Nat} : ∀ {l : List (Addr × Obj)}, AllLt d l → ∀ p ∈ l, @LT.lt Nat _ p.1 d
  | [], _, p, hp => nomatch hp
  | q :: l, h, p, hp => by
    rcases List.mem_cons.mp hp with rfl | hp
    · exact h.1
    · exact allLt_all h.2 p hp
theorem off_far {l : List (Addr × Obj)} {adr : List Addr} {x : Addr} {o : Obj} (h : OwnOff l adr) (hm : (x, o) ∈ l) : Far x adr := fun b hb => h _ hm b hb
theorem news_pull {h₀ h : Heap} {L : Addr} {x1 x2 x3 x4 x5 x6 c y1 y2 : Addr × Obj} {rnx own own2 : List (Addr × Obj)} (N : News h₀ L h ((x1 :: x2 :: x3 :: x4 :: x5 :: x6 :: c :: rnx) ++ own)) (h1 : y1 ∈ rnx) (h2 : y2 ∈ rnx) (e : own2 = rnx ++ own) :
    News h₀ L h (x1 :: x2 :: x3 :: x4 :: x5 :: x6 :: c :: y1 :: y2 :: own2) := by
  subst e
  exact news_sub N (by k_extra "sub")

theorem word58 : True := by
  (k_with "ne" => row_timed "z" ((first | exact far_ne (by assumption) (by k_dflt k_memK) | exact far_ne' (by assumption) (by k_dflt k_memK))))
  trivial


theorem in_of_fr {K : Frag} {g h : Heap} {L : Addr} {m : Str → Option Value} (F : Fr g L h m) (X : K.In g) : K.In h := X.keeps F.keep

theorem word59 : True := by
  (k_with "w:callWith ref" => row_timed "z" ((k_here; (with_reducible show wpAny _ _ (callWith _ (Value.ref _) _ (backTo _ (starEach [] _)) []) _ _ _); k_dflt (refine' callWith_K0 ?z9k1 ?z9k2 ?_; (case z9k1 => exact in_of_fr (by k_asm) (by with_reducible assumption)); (case z9k2 => k_is); k_whole))))
  trivial


theorem ints3 (a b c : Int) (t u v : Tok) : IntsAre [.int a t, .int b u, .int c v] [a, b, c] := IntsAre.cons _ _ (IntsAre.cons _ _ (IntsAre.cons _ _ IntsAre.nil))

theorem word60 : True := by
  (k_with "w:compareOp NotEq ref ref" => row_timed "z" ((k_here; (with_reducible show wpAny _ _ (compareOp CmpOp.NotEq (Value.ref _) (Value.ref _)) _ _ _); (k_dflt (refine' ne_intsK ?z9k1 ?z9k2 ?z9k3 ?z9k4 ?z9k5 ?_)); (case z9k1 => k_dflt (first | exact ⟨_, got_news (by k_asm) (by k_mem), rfl, _, rfl⟩ | exact stays_list (Fr.keep (by k_asm)) (by assumption))); (case z9k2 => k_dflt (first | with_reducible assumption | exact ints3 _ _ _ _ _ _)); (case z9k3 => k_dflt (first | exact ⟨_, got_news (by k_asm) (by k_mem), rfl, _, rfl⟩ | exact stays_list (Fr.keep (by k_asm)) (by assumption))); (case z9k4 => k_dflt (first | with_reducible assumption | exact ints3 _ _ _ _ _ _)); (case z9k5 => ((try dsimp only [top, Around.deeper]); omega)); k_whole)))
  trivial

theorem word61 : True := by
  (k_with "w:compareOp Eq ref ref" => row_timed "z" ((k_here; (with_reducible show wpAny _ _ (compareOp CmpOp.Eq (Value.ref _) (Value.ref _)) _ _ _); (k_dflt (refine' eq_intsK ?z9k1 ?z9k2 ?z9k3 ?z9k4 ?z9k5 ?_)); (case z9k1 => k_dflt (first | exact ⟨_, got_news (by k_asm) (by k_mem), rfl, _, rfl⟩ | exact stays_list (Fr.keep (by k_asm)) (by assumption))); (case z9k2 => k_dflt (first | with_reducible assumption | exact ints3 _ _ _ _ _ _)); (case z9k3 => k_dflt (first | exact ⟨_, got_news (by k_asm) (by k_mem), rfl, _, rfl⟩ | exact stays_list (Fr.keep (by k_asm)) (by assumption))); (case z9k4 => k_dflt (first | with_reducible assumption | exact ints3 _ _ _ _ _ _)); (case z9k5 => ((try dsimp only [top, Around.deeper]); omega)); k_whole)))
  trivial


theorem Does.weaken {w : World} {f : Addr} {args : List Value} {room : Nat} {touched : List (Addr × Obj)} {P : Heap → Prop} {post post' : Value → List (Addr × Obj) → Heap → Prop} (D : Does w f args room touched P post) (h : ∀ v n h', post v n h' → post' v n h') : Does w f args room touched P post' :=
  ⟨fun cx F N hp hdp hun ret => D.go cx F N hp hdp hun fun v new h' tk' st hn po => ret v new h' tk' st hn (h _ _ _ po)⟩
theorem value_at (w : World) (x dx : Addr) (h1 h2 h3 : Int) (k1 k2 k3 : Tok) (a b c : Int) (ta tb tc : Tok) (d lit : Int) (td tl : Tok) (v a2 b2 c2 : Int) (hx : x ≠ dx) (hv : 1 ≤ d) (hl : 0 ≤ lit) (e1 : v = valueO a b c d lit) (e2 : (a2, b2, c2) = moveO a b c d (toldBy a b c v lit).2) :
    Does w 123 [.ref x, .int d td, .int lit tl] 5 [(dx, dictOf [⟨h1, .str "one" k1, .int a ta⟩, ⟨h2, .str "two" k2, .int b tb⟩, ⟨h3, .str "three" k3, .int c tc⟩] 3)] (fun h => h.get? x = some (instObj 126 dx)) (fun r news _ => ∃ t, r = .int v t ∧ ∃ ta tb tc, (dx, dictOf [⟨h1, .str "one" k1, .int a2 ta⟩, ⟨h2, .str "two" k2, .int b2 tb⟩, ⟨h3, .str "three" k3, .int c2 tc⟩] 3) ∈ news) := by
  subst e1
  refine (value_does w x dx h1 h2 h3 k1 k2 k3 a b c ta tb tc d lit td tl hx hv hl).weaken ?_
  rintro r news h' ⟨t, rfl, ta, tb, tc, hm⟩
  rw [← e2] at hm
  exact ⟨t, rfl, ta, tb, tc, hm⟩
theorem dist_at (w : World) (x dx : Addr) (h1 h2 h3 : Int) (k1 k2 k3 : Tok) (a b c : Int) (ta tb tc : Tok) (value lit : Int) (tv tl : Tok) (d p a2 b2 c2 : Int) (hx : x ≠ dx) (hv : 1 ≤ value) (hl : 0 ≤ lit) (hne : d ≠ 0) (e1 : (d, p) = toldBy a b c value lit) (e2 : (a2, b2, c2) = moveO a b c d p) :
    Does w 116 [.ref x, .int value tv, .int lit tl] 4 [(dx, dictOf [⟨h1, .str "one" k1, .int a ta⟩, ⟨h2, .str "two" k2, .int b tb⟩, ⟨h3, .str "three" k3, .int c tc⟩] 3)] (fun h => h.get? x = some (instObj 126 dx)) (fun r news _ => ∃ t, r = .int d t ∧ ∃ ta tb tc, (dx, dictOf [⟨h1, .str "one" k1, .int a2 ta⟩, ⟨h2, .str "two" k2, .int b2 tb⟩, ⟨h3, .str "three" k3, .int c2 tc⟩] 3) ∈ news) := by
  refine (dist_does w x dx h1 h2 h3 k1 k2 k3 a b c ta tb tc value lit tv tl hx hv hl (by rw [← e1]; exact hne)).weaken ?_
  rintro r news h' ⟨t, rfl, ta, tb, tc, hm⟩
  rw [← e1] at hm
  dsimp only at hm
  rw [← e2] at hm
  refine ⟨t, ?_, ta, tb, tc, hm⟩
  rw [← e1]

theorem word62 : True := by
  (k_with "w:call ref" => row_timed "z" ((k_here; (with_reducible show wpAny _ _ (call (Value.ref 123) _) _ _ _); (k_dflt (refine' does_use1 (value_at _ _ _ _ _ _ _ _ _ _ _ _ _ _ _ _ _ _ _ _ _ _ _ ?z9hx ?z9hv ?z9hl ?z9e1 ?z9e2) ?z9cx ?z9F ?z9N ?z9U ?z9hp ?z9hdp ?z9hun ?_)); (case z9cx => k_dflt k_asm); (case z9F => k_dflt k_asm); (case z9N => k_dflt k_asm); (case z9hp => k_dflt (exact (by (first | exact got_base (by k_asm) (by assumption) | exact got_news (by k_asm) (by k_mem))))); (case z9U => k_updF); (case z9hdp => ((try dsimp only [top]); omega)); (case z9hun => ((try dsimp only [top]); omega)); (case z9e1 => with_reducible assumption); (case z9e2 => with_reducible assumption); (case z9hx => k_ne); (case z9hv => omega); (case z9hl => omega); k_whole; (k_dflt (rintro z9v' z9new' z9h' z9tk' z9F' z9N' z9hnew' z9st' z9hpost'; refine (let z9G' : Prop := _; (?_ : z9G')); obtain ⟨z9t', z9e', z9ho'⟩ := z9hpost')); (k_dflt obtain ⟨z9ta', z9tb', z9tc', z9hm'⟩ := z9ho'); subst z9e'; (replace z9N' := z9N' _ z9hm'); (try dsimp only at z9N'); clear z9hnew' z9hm' z9st'; (try k_unmd); (try k_unfold); (try dsimp only); (try k_fold))))
  trivial

theorem word63 : True := by
  (k_with "w:call ref" => row_timed "z" ((k_here; (with_reducible show wpAny _ _ (call (Value.ref 116) _) _ _ _); (k_dflt (refine' does_use1 (dist_at _ _ _ _ _ _ _ _ _ _ _ _ _ _ _ _ _ _ _ _ _ _ _ _ ?z9hx ?z9hv ?z9hl ?z9hne ?z9e1 ?z9e2) ?z9cx ?z9F ?z9N ?z9U ?z9hp ?z9hdp ?z9hun ?_)); (case z9cx => k_dflt k_asm); (case z9F => k_dflt k_asm); (case z9N => k_dflt k_asm); (case z9hp => k_dflt (exact (by (first | exact got_base (by k_asm) (by assumption) | exact got_news (by k_asm) (by k_mem))))); (case z9U => k_updF); (case z9hdp => ((try dsimp only [top]); omega)); (case z9hun => ((try dsimp only [top]); omega)); (case z9e1 => with_reducible assumption); (case z9e2 => with_reducible assumption); (case z9hx => k_ne); (case z9hv => omega); (case z9hl => omega); (case z9hne => assumption); k_whole; (k_dflt (rintro z9v' z9new' z9h' z9tk' z9F' z9N' z9hnew' z9st' z9hpost'; refine (let z9G' : Prop := _; (?_ : z9G')); obtain ⟨z9t', z9e', z9ho'⟩ := z9hpost')); (k_dflt obtain ⟨z9ta', z9tb', z9tc', z9hm'⟩ := z9ho'); subst z9e'; (replace z9N' := z9N' _ z9hm'); (try dsimp only at z9N'); clear z9hnew' z9hm' z9st'; (try k_unmd); (try k_unfold); (try dsimp only); (try k_fold))))
  trivial


theorem or_end {g h' : Heap} {L : Addr} {m' : Str → Option Value} {news' own own2 rnx : List (Addr × Obj)} {s₁ : Shared} {tk : Nat} {D wx wd rx rd tl r ot : Addr} {c : Addr × Obj} {ys vs' : List Value} {cnt : Nat} {h1 h2 h3 : Int} {w1 w2 w3 v1 v2 v3 : Tok} {b o : T3} {run : List (Int × Int)} {i : Nat} {tn' : Nat}
    {wa wb wc ra rb rc : Int} {ta tb tc ta' tb' tc' : Tok} {tol : List Int} (F : Fr g L h' m') (N : News g L h' news')
    (e1 : m' (Str.ofString "writer") = some (.ref wx)) (e2 : m' (Str.ofString "reader") = some (.ref rx)) (e3 : m' (Str.ofString "told") = some (.ref tl)) (e4 : m' (Str.ofString "rows") = some (.ref D)) (e5 : m' (Str.ofString "run") = some (.ref r)) (e6 : m' (Str.ofString "other") = some (.ref ot))
    (n1 : (tl, listOf (List.toArray vs') tn') ∈ news')
    (n2 : (rd, dictOf [⟨h1, .str (Str.ofString "one") v1, .int ra ta'⟩, ⟨h2, .str (Str.ofString "two") v2, .int rb tb'⟩, ⟨h3, .str (Str.ofString "three") v3, .int rc tc'⟩] 3) ∈ news')
    (n3 : (wd, dictOf [⟨h1, .str (Str.ofString "one") w1, .int wa ta⟩, ⟨h2, .str (Str.ofString "two") w2, .int wb tb⟩, ⟨h3, .str (Str.ofString "three") w3, .int wc tc⟩] 3) ∈ news')
    (n4 : (rx, instObj 126 rd) ∈ news') (n5 : (wx, instObj 126 wd) ∈ news') (n6 : (D, listOf ys.toArray cnt) ∈ news') (n7 : c ∈ news') (n8 : ∀ p ∈ own2, p ∈ news') (hown : own2 = rnx ++ own)
    (hS : offS b o run (i + 1) = (((wa, wb, wc), (ra, rb, rc)), tol)) (hoff : OwnOff own ([tl, rd, wd, rx, wx, D, c.1] ++ rnx.map (·.1))) (hv : IntsAre vs' tol) (hl : vs'.length = i + 1) :
    SrcTurn g L (offJ D wx wd rx rd tl r ot c rnx ys cnt h1 h2 h3 w1 w2 w3 v1 v2 v3 b o run (i + 1)) own s₁ .next { s₁ with heap := h', toks := tk } := by
  refine src_next (nx := (tl, listOf (List.toArray vs') tn') :: (rd, offD h1 h2 h3 v1 v2 v3 (ra, rb, rc) ta' tb' tc') :: (wd, offD h1 h2 h3 w1 w2 w3 (wa, wb, wc) ta tb tc) :: (rx, instObj 126 rd) :: (wx, instObj 126 wd) :: (D, listOf ys.toArray cnt) :: c :: rnx) F N ⟨ta, tb, tc, ta', tb', tc', vs', tn', e1, e2, e3, e4, e5, e6, by rw [hS], by rw [hS]; exact hv, hl⟩ ?_ ?_ ?_
  · exact hoff
  · intro p hp
    simp only [List.mem_cons] at hp
    rcases hp with rfl | rfl | rfl | rfl | rfl | rfl | rfl | hp
    · exact n1
    · exact n2
    · exact n3
    · exact n4
    · exact n5
    · exact n6
    · exact n7
    · exact n8 p (by rw [hown]; exact List.mem_append_left _ hp)
  · intro p hp
    exact n8 p (by rw [hown]; exact List.mem_append_right _ hp)


theorem rowsF_short (bs : List Int) (lates : List (List Int)) {n : Nat} (hn : n < 1000) : ∀ row ∈ rowsF bs lates n, row.length < 1000 := by
  intro row h
  obtain ⟨l, _, rfl⟩ := List.mem_map.mp h
  unfold rowOf
  rw [List.length_take]; omega

theorem word64 : True := by
  (k_with "w:call ref" => row_timed "z" ((k_here; (with_reducible show wpAny _ _ (call (Value.ref 278) _) _ _ _); (k_dflt (refine' does_use0 (heard_does _ _ _ _ _ _ _ _ _ _ _ _ ?z9hb ?z9ho ?z9h1 ?z9h2 ?z9h3 ?z9hok) ?z9cx ?z9F ?z9N ?z9hp ?z9hdp ?z9hun ?_)); (case z9cx => k_dflt k_asm); (case z9F => k_dflt k_asm); (case z9N => k_dflt k_asm); (case z9hp => k_dflt (exact ⟨⟨by (first | exact got_base (by k_asm) (by assumption) | exact got_news (by k_asm) (by k_mem)), by (first | exact stays_list (Fr.keep (by k_asm)) (by assumption) | exact ⟨_, got_news (by k_asm) (by k_mem), rfl, _, rfl⟩)⟩, by (first | exact LstAt.keeps (fun _ _ _ _ k x => x.keeps k) (Fr.keep (by k_asm)) (by assumption) | assumption), ⟨_, ⟨_, got_news (by k_asm) (by k_mem), rfl, _, rfl⟩, LstIn.at (by assumption) (by k_asm) (by intro p hp; k_ownIn)⟩⟩)); (case z9hdp => ((try dsimp only [top]); omega)); (case z9hun => ((try dsimp only [top]); omega)); (case z9hok => with_reducible assumption); (case z9hb => with_reducible assumption); (case z9ho => with_reducible assumption); (case z9h1 => ((try simp only [List.length_cons, List.length_nil]); omega)); (case z9h2 => omega); (case z9h3 => with_reducible assumption); k_whole; (k_dflt (rintro z9v' z9new' z9h' z9tk' z9F' z9N' z9hnew' z9st' z9hpost'; refine (let z9G' : Prop := _; (?_ : z9G')); obtain ⟨z9l', z9vs', z9n', z9e', z9hm', z9hi'⟩ := z9hpost')); subst z9e'; (replace z9N' := (z9hnew' _ z9hm').news z9N'); (have z9hne' := (z9hnew' _ z9hm').ne); (try dsimp only [AllNe] at z9hne'); clear z9hnew' z9hm' z9st'; (try k_unmd); (try k_unfold); (try dsimp only); (try k_fold))))
  trivial

theorem word65 : True := by
  (k_with "w:subscriptTail Subscript Slice ref ref" => row_timed "z" ((k_here; (with_reducible show wpAny _ _ (subscriptTail _ (PySem.Expr.Slice _ _ none _) (Value.ref _) (Value.ref _)) _ _ _); (k_dflt (refine' kmk_slice_ints ?z9F ?z9N ?z9l ?z9p ?z9q ?z9i ?z9m ?z9c ?_ ?z9s ?z9t ?z9z)); (case z9F => k_asm); (case z9N => k_asm); (case z9l => kmk_list); (case z9p => kmk_part); (case z9q => kmk_part); (case z9i => l_ints); (case z9m => kmk_nums); (case z9c => kmk_len); (case z9s => with_unfolding_all rfl); (case z9t => kmk_pure); (case z9z => kmk_size); intro z9D' z9ws' z9h' z9F' z9N' z9l1 z9hI' z9hC' z9hL'; (try simp only [Int.reduceNeg, Int.neg_neg, Int.reduceToNat] at z9hI' z9hC' z9hL'); (try k_lt z9l1); (try k_sweep))))
  trivial

theorem word66 : True := by
  (k_with "w:call builtin:list.index" => row_timed "z" ((k_here; (with_reducible show wpAny _ _ (call (Value.builtin "list.index") [Value.ref _, Value.int _ _]) _ _ _); (k_dflt (refine' index_ints ?z9l ?z9i ?z9z ?z9m ?_)); (case z9l => k_dflt (first | exact stays_list (Fr.keep (by k_asm)) (by assumption) | exact ⟨_, got_news (by k_asm) (by k_mem), rfl, _, rfl⟩)); (case z9i => with_reducible assumption); (case z9z => ((try simp only [List.length_append, List.length_drop, List.length_cons, List.length_nil]); omega)); (case z9m => first | exact any_mem.mp (by assumption) | assumption); k_whole)))
  trivial

local macro_rules | `(tactic| k_all) => `(tactic| exact OwnOff.ne (by assumption) (by k_dflt k_memK))

theorem word67 : True := by
  (k_with "w:exec Assign cons ListComp" => row_timed "z" ((k_here; (k_dflt (refine' comp_assign ?z9F ?z9hsw ?z9hclos ?z9hcell ?z9hkind ?z9hnames ?z9hx ?z9hy ?z9hp ?_ ?z9hs)); (case z9F => k_dflt k_asm); (case z9hsw => k_dflt exact rfl); (case z9hclos => k_dflt exact rfl); (case z9hcell => k_dflt decide); (case z9hkind => exact rfl); (case z9hnames => k_dflt decide); (case z9hx => k_dflt exact rfl); (case z9hy => k_dflt exact rfl); (case z9hp => k_dflt exact rfl); (case z9hs => k_dflt (intro _; exact rfl)); k_whole)))
  trivial

theorem word68 : True := by
  (k_with "w:pyIter ref" => row_timed "z" (((goal_has CompS); refine stop_ ?_)))
  trivial

local macro_rules | `(tactic| k_room) => `(tactic| ((try simp only [depth_under_make, depth_under_kw, depth_in1, depth_deeper, depth_caller]); (try dsimp only [top]); omega))

theorem word69 : True := by
  (k_with "w:exec Assign" => row_timed "z" (((with_reducible rename NamedMark => z9hF9); (with_reducible show wpAny _ _ (exec (PySem.Stmt.Assign _ (PySem.Expr.IfExp ..) ..) _) _ _ _); refine stop_ ?_)))
  trivial

theorem word70 : True := by
  (k_with "w:exec If" => row_timed "z" (((with_reducible rename IfMark => z9hF9); (with_reducible show wpAny _ _ (exec (PySem.Stmt.If (PySem.Expr.BoolOp ..) _ _ _) _) _ _ _); refine stop_ ?_)))
  trivial

set_option maxHeartbeats 8000000 in
theorem offr_does (w : World) (bg ot r lt : Addr) (b1 b2 b3 o1 o2 o3 : Int) (bvs ovs : List Value) (nb : Nat) (run : List (Int × Int)) (lates : List (List Int)) (hb : IntsAre bvs [b1, b2, b3]) (ho : IntsAre ovs [o1, o2, o3]) (h2 : run.length < 100) (h3 : lates.length = run.length + 1) (h4 : ∀ l ∈ lates, l.length < 900) (p1 : 1 ≤ b1) (p2 : 1 ≤ b2) (p3 : 1 ≤ b3) (r1 : 1 ≤ o1) (r2 : 1 ≤ o2) (r3 : 1 ≤ o3) (hok : OffOk (b1, b2, b3) (o1, o2, o3) run lates) :
    Does w 283 [.ref bg, .ref ot, .ref r, .ref lt] 16 [] (fun h => (h.get? bg = some (listOf bvs.toArray nb) ∧ h.IsList ot ovs.toArray) ∧ LstAt PairAt h r run ∧ LstAt IntsAt h lt lates) (fun v news _ => v = .bool true) := by
  refine' does_ofC [(Str.ofString "begun", .ref bg), (Str.ofString "other", .ref ot), (Str.ofString "run", .ref r), (Str.ofString "lates", .ref lt)] ?ho ?hcd ?hbind ?kB ?kD ?c2 ?c3 ?c4 ?cP ?body
  case ho => k_is
  case hcd => k_is
  case hbind => exact fun _ _ => BindsTo.of_eq rfl
  case kB => exact rfl
  case kD => decide +kernel
  case c2 => exact rfl
  case c3 => exact rfl
  case c4 => exact rfl
  case cP => exact fun _ _ g h => ⟨⟨g _ _ h.1.1 (by simp), is_list_but g h.1.2 (by simp)⟩, h.2.1.keeps (fun _ _ _ _ k x => x.keeps k) (stays_of_gsub g), h.2.2.keeps (fun _ _ _ _ k x => x.keeps k) (stays_of_gsub g)⟩
  case body =>
    intro mg mb p loose mean base env outer dp un gd s g' L' h' tk0 cells' cx hdp hun hp B' X' T' G' F' N' Y' l1
    (try k_lt l1)
    k_cells Y'
    (try simp only [List.cons_append, List.nil_append] at N')
    (try dsimp only)
    rename_i o0 d0
    obtain ⟨⟨hbg, hol⟩, ⟨rvs, hrl, hra⟩, ⟨lvs, hll, hla⟩⟩ := hp
    have hbl : g'.IsList bg bvs.toArray := ⟨_, hbg, rfl, _, rfl⟩
    have hlen := hra.1
    have hlen2 := hla.1
    try k_unmd
    k_fold
    k_steps
    refine stop_on ?_
    refine' src_list (items := lvs.toArray) rfl ?lst (fun it s₂ S => comp_of (nx₀ := [(L' + 1, o0)]) (rowsJ (L' + 1, o0) [b1, b2, b3] lates 3) S ?hsz (by assumption) (news_sub (by assumption) ?sub) ?h0 ?hrd ?turn ?done)
    case lst => exact stays_list (Fr.keep (by k_asm)) (by assumption)
    case sub => k_allIn
    case h0 => exact ⟨[], rfl, Are.nil⟩
    case hsz => (rw [sizeLine_eq]; simp only [List.size_toArray]; omega)
    case hrd => exact List.forall_mem_cons.mpr ⟨.inl (by obtain ⟨o, e, _⟩ := hll; exact ⟨o, e⟩), List.forall_mem_nil _⟩
    case turn =>
      intro i v ys nx h tk C D oC cnt own mC hi hP hys h1o h2o hCD h3o hJ F₁ N₁ nsC
      refine (let G : Prop := _; (?_ : G))
      obtain ⟨rnx, rfl, hJ⟩ := hJ
      simp only [List.getElem?_toArray] at hP
      have hil : i < lates.length := by have := (List.getElem?_eq_some_iff.mp hP).1; omega
      obtain ⟨v2, hv2, a2, lv2, e6, ht2, hl2⟩ := hla.at (List.getElem?_eq_getElem hil)
      have e8 : v = .ref a2 := by rw [hv2] at hP; cases hP; exact e6
      subst e8
      have hrow := h4 _ (List.getElem_mem hil)
      dsimp only [List.cons_append] at N₁
      have hb3 : [b1, b2, b3].length = 3 := rfl
      k_unmd
      k_unfold
      try k_unmd
      k_fold
      k_steps
      (try dsimp only); (try k_unfold)
      exact rows_end (by assumption) (by assumption) (by assumption) h1o h2o h3o hJ (List.getElem?_eq_getElem hil) (by assumption)
    case done =>
      intro D ys cnt nx h' tk F₁ N₁ hoff hys hJ
      refine (let G : Prop := _; (?_ : G))
      obtain ⟨rnx, rfl, hJ⟩ := hJ
      have nD : @Ne Nat (L' + 1) D := hoff _ (.head _) _ (.head _)
      have hoffD := hoff
      have q1 : 1 ≤ [b1, b2, b3].getD (Int.toNat 0) 0 := p1
      have q2 : 1 ≤ [b1, b2, b3].getD (Int.toNat 1) 0 := p2
      have q3 : 1 ≤ [b1, b2, b3].getD (Int.toNat 2) 0 := p3
      have q4 : 1 ≤ [o1, o2, o3].getD (Int.toNat 0) 0 := r1
      have q5 : 1 ≤ [o1, o2, o3].getD (Int.toNat 1) 0 := r2
      have q6 : 1 ≤ [o1, o2, o3].getD (Int.toNat 2) 0 := r3
      k_unmd
      k_unfold
      k_steps
      refine stop_on ?_
      (try dsimp only)
      refine gen_toks (fun tk' => ?_)
      refine or_norm (b1, b2, b3) (o1, o2, o3) run (by assumption) (by assumption) rfl rfl rfl rfl rfl rfl ?sev ?own (fun tl rx rd wx wd w1 w2 w3 v1 v2 v3 m nx F₃ N₃ J₃ S₃ O₃ => ?loop)
      case sev =>
        refine seven_lt nD ?_ ?_ ?_ ?_ ?_ ?_ <;> (with_reducible first | assumption | exact And.left (by assumption) | exact And.left (And.right (by assumption)))
      case own =>
        rename (@LT.lt Nat _ D _ ∧ _ ∧ AllLt _ rnx) => hA
        intro p hp b hb
        have hlt := allLt_all hA.2.2 p hp
        have nb := hoffD p (.tail _ hp) D (.head _)
        simp only [List.mem_cons, List.not_mem_nil, or_false] at hb
        rcases hb with rfl | rfl | rfl | rfl | rfl | rfl
        · exact neN (by omega)
        · exact neN (by omega)
        · exact neN (by omega)
        · exact neN (by omega)
        · exact neN (by omega)
        · exact nb
      case loop =>
        repeat (rename (@LT.lt Nat _ _ _ ∧ _) => hz; clear hz)
        have hR : LstIn rnx ys (rowsF [b1, b2, b3] lates 3) := by
          have e : lates.take lvs.toArray.size = lates := List.take_of_length_le (by simp only [List.size_toArray]; omega)
          rw [e] at hJ; exact hJ
        refine' src_enum (items := rvs.toArray) rfl ?lst (fun it s₂ S => loop_of (offJ D wx wd rx rd tl r ot (L' + 1, o0) rnx ys cnt _ _ _ w1 w2 w3 v1 v2 v3 (b1, b2, b3) (o1, o2, o3) run) S F₃ N₃ J₃ ?hrd ?turn ?done)
        case lst => exact stays_list (Fr.keep (by k_asm)) (by assumption)
        case hrd => exact List.forall_mem_cons.mpr ⟨.inl (by obtain ⟨o, e, _⟩ := hrl; exact ⟨o, e⟩), List.forall_mem_nil _⟩
        case turn =>
          intro i v m₁ nx h tk own hi hP hoff hJ F₁ N₁
          refine (let G : Prop := _; (?_ : G))
          obtain ⟨T, vals, rfl, ⟨t0, x0, hx0, rfl⟩, hT⟩ := hP
          refine ex8 hJ ?_
          intro ta tb tc ta' tb' tc' tvs tn z9p
          clear hJ
          refine and9 z9p ?_
          clear z9p
          intro e1 e2 e3 e4 e5 e6 z9e6 htv htl
          subst z9e6
          simp only [List.getElem?_toArray] at hx0
          have hir : i < run.length := by have := (List.getElem?_eq_some_iff.mp hx0).1; omega
          obtain ⟨v1', hv1, a1, u1, u2, e7, ht1⟩ := hra.at (List.getElem?_eq_getElem hir)
          have e8 : x0 = .ref a1 := by rw [hv1] at hx0; cases hx0; exact e7
          subst e8
          obtain ⟨x3, hx3, a3, rvs3, n3, e9, hm3, hi3⟩ := Are.at hR (rowsF_at (by omega : i < lates.length))
          obtain ⟨x4, hx4, a4, rvs4, n4, e10, hm4, hi4⟩ := Are.at hR (rowsF_at (by omega : i + 1 < lates.length))
          subst e9 e10
          have er3 := hok.rows i (by omega)
          have er4 := hok.rows (i + 1) (by omega)
          simp only [tripL] at er3 er4
          rw [er3] at hi3
          rw [er4, offS_succ hir] at hi4
          have hval := hok.value i hir
          have htold := hok.told i hir
          obtain ⟨hf1, hf2, hf3⟩ := hok.far _ (List.getElem_mem hir)
          have hx3' : ys[((i : Int)).toNat]? = some (.ref a3) := hx3
          have hx4' : ys[((i : Int) + 1).toNat]? = some (.ref a4) := hx4
          have hJs : offS (b1, b2, b3) (o1, o2, o3) run (i + 1) = offStep (offS (b1, b2, b3) (o1, o2, o3) run i) run[i] := offS_succ hir
          clear er3 er4
          k_unmd
          k_unfold
          generalize hS : offS (b1, b2, b3) (o1, o2, o3) run i = S0 at *
          obtain ⟨⟨⟨wa, wb, wc⟩, ⟨ra, rb, rc⟩⟩, tol⟩ := S0
          generalize hp1 : run[i].1 = ahead at *
          generalize hp2 : run[i].2 = far at *
          have hrp : run[i] = (ahead, far) := by rw [← hp1, ← hp2]
          rw [hrp] at hi4 hJs
          simp only [offD, offStep] at N₁ hi3 hi4 hval htold htv hJs
          obtain ⟨val, hv0⟩ : ∃ v, v = valueO wa wb wc far ahead := ⟨_, rfl⟩
          rw [← hv0] at hi4 hJs hval htold
          obtain ⟨⟨wa', wb', wc'⟩, hw0⟩ : ∃ t, t = moveO wa wb wc far (toldBy wa wb wc val ahead).2 := ⟨_, rfl⟩
          rw [← hw0] at hi4 hJs
          obtain ⟨⟨td, tp⟩, ht0⟩ : ∃ t, t = toldBy ra rb rc val ahead := ⟨_, rfl⟩
          rw [← ht0] at hJs htold
          obtain ⟨⟨ra', rb', rc'⟩, hr0⟩ : ∃ t, t = moveO ra rb rc td tp := ⟨_, rfl⟩
          dsimp only at hi4 hJs htold
          rw [← hr0] at hJs
          have hoff' : OwnOff own ([tl, rd, wd, rx, wx, D, L' + 1] ++ rnx.map (·.1)) := hoff
          have O₄ : OwnOff own [tl, rd, wd, rx, wx, D, L' + 1] := own_pre hoff'
          obtain ⟨own2, hown2⟩ : ∃ o, o = rnx ++ own := ⟨_, rfl⟩
          have O₂ : OwnOff own2 [tl, rd, wd, rx, wx, D] := by
            subst hown2
            exact own_app O₃ (own_pre (A := [tl, rd, wd, rx, wx, D]) (B := [L' + 1]) O₄)
          have y1 := off_far O₃ hm3
          have y1' := off_far O₃ hm4
          have N₂ := news_pull N₁ hm3 hm4 hown2
          clear N₁
          have F₂ := fr_lit [(Str.ofString "writer", .ref wx), (Str.ofString "reader", .ref rx), (Str.ofString "told", .ref tl), (Str.ofString "rows", .ref D), (Str.ofString "run", .ref r), (Str.ofString "other", .ref ot)] (List.forall_mem_cons.mpr ⟨e1, List.forall_mem_cons.mpr ⟨e2, List.forall_mem_cons.mpr ⟨e3, List.forall_mem_cons.mpr ⟨e4, List.forall_mem_cons.mpr ⟨e5, List.forall_mem_cons.mpr ⟨e6, List.forall_mem_nil _⟩⟩⟩⟩⟩⟩) F₁
          clear F₁
          dsimp only [kstB] at F₂
          have hT' : IsTup h T [Value.int (i : Int) t0, Value.ref a1].toArray := isTup_of hT
          dsimp only at S₃
          obtain ⟨s1, s2', s3, s4, s5, s6⟩ := S₃
          clear hoff O₃ q1 q2 q3 q4 q5 q6 nD hoffD e1 e2 e3 e4 e5 e6 hT hx0 hx3 hx4 hm3 hm4 hv1 e7 hp1 hp2 hS
          have hsame : (!decide ([wa', wb', wc'] = [wa', wb', wc'])) = false := by simp
          have hNM : NamedMark := trivial
          k_steps
          refine stop_on ?_
          rename NamedMark => hz
          clear hz
          refine cut_new (g := g') (L := L') (by assumption) (NamedR (fun m => m (Str.ofString "writer") = some (.ref wx) ∧ m (Str.ofString "reader") = some (.ref rx) ∧ m (Str.ofString "told") = some (.ref tl) ∧ m (Str.ofString "rows") = some (.ref D) ∧ m (Str.ofString "run") = some (.ref r) ∧ m (Str.ofString "other") = some (.ref ot) ∧ m (Str.ofString "at") = some (.int (i : Int) t0) ∧ m (Str.ofString "ahead") = some (.int ahead u1) ∧ m (Str.ofString "far") = some (.int far u2)) (namedL (wa, wb, wc) ahead) [tl, rd, wd, rx, wx, D]) ?named ?go
          case named =>
            by_cases ha : 0 < ahead
            · have en : namedL (wa, wb, wc) ahead = [wa, wb, wc] := if_pos ha
              rw [en]
              k_steps
              all_goals (try dsimp only)
              exact named_end (by assumption) (by assumption) rfl (by k_mem) (by k_extra "sub") hi3 y1 ⟨rfl, rfl, rfl, rfl, rfl, rfl, rfl, rfl, rfl⟩
            · have en : namedL (wa, wb, wc) ahead = (List.drop 1 [wa, wb, wc] ++ [[wa, wb, wc].getD (Int.toNat 0) 0 - 1]) := if_neg ha
              rw [en]
              k_steps
              all_goals (try dsimp only)
              refine named_end (by assumption) (by assumption) rfl (by k_mem) (by k_extra "sub") (by assumption) ?_ ⟨rfl, rfl, rfl, rfl, rfl, rfl, rfl, rfl, rfl⟩
              exact far_cons (neN (by omega)) (far_cons (neN (by omega)) (far_cons (neN (by omega)) (far_cons (neN (by omega)) (far_cons (neN (by omega)) (far_cons (neN (by omega)) (far_nil _))))))
          case go =>
            rintro h' tk m' nw F₃ N₃ ⟨⟨e1, e2, e3, e4, e5, e6, g1, g2, g3⟩, ln, lvs, nn, g4, rfl, hi5, y5⟩
            have F₄ := fr_lit [(Str.ofString "writer", .ref wx), (Str.ofString "reader", .ref rx), (Str.ofString "told", .ref tl), (Str.ofString "rows", .ref D), (Str.ofString "run", .ref r), (Str.ofString "other", .ref ot), (Str.ofString "at", .int (i : Int) t0), (Str.ofString "ahead", .int ahead u1), (Str.ofString "far", .int far u2), (Str.ofString "named", .ref ln)] (List.forall_mem_cons.mpr ⟨e1, List.forall_mem_cons.mpr ⟨e2, List.forall_mem_cons.mpr ⟨e3, List.forall_mem_cons.mpr ⟨e4, List.forall_mem_cons.mpr ⟨e5, List.forall_mem_cons.mpr ⟨e6, List.forall_mem_cons.mpr ⟨g1, List.forall_mem_cons.mpr ⟨g2, List.forall_mem_cons.mpr ⟨g3, List.forall_mem_cons.mpr ⟨g4, List.forall_mem_nil _⟩⟩⟩⟩⟩⟩⟩⟩⟩⟩) F₃
            clear F₃ e1 e2 e3 e4 e5 e6 g1 g2 g3 g4
            dsimp only [kstB, List.cons_append, List.nil_append] at F₄ N₃
            have hval' : val = if far ∈ namedL (wa, wb, wc) ahead then ((List.idxOf far (namedL (wa, wb, wc) ahead) : Nat) : Int) + 1 else far + 3 := hval
            have hnl : (namedL (wa, wb, wc) ahead).length = 3 := named_len _ _
            have hv1 : 1 ≤ val := by rw [hval']; split <;> omega
            generalize namedL (wa, wb, wc) ahead = W at *
            have hIM : IfMark := trivial
            skip
            k_steps
            refine stop_on ?_
            rename IfMark => hz
            clear hz
            skip
            refine cut_led (g := g') (L := L') (by assumption) (fun m => m (Str.ofString "writer") = some (.ref wx) ∧ m (Str.ofString "reader") = some (.ref rx) ∧ m (Str.ofString "told") = some (.ref tl) ∧ m (Str.ofString "rows") = some (.ref D) ∧ m (Str.ofString "run") = some (.ref r) ∧ m (Str.ofString "other") = some (.ref ot) ∧ m (Str.ofString "at") = some (.int (i : Int) t0) ∧ m (Str.ofString "ahead") = some (.int ahead u1) ∧ m (Str.ofString "far") = some (.int far u2) ∧ ∃ t, m (Str.ofString "value") = some (.int val t)) ?iff ?go2
            case iff =>
              by_cases hfm : far ∈ W
              · have hany : (W.any fun y => y == far) = true := any_mem.mpr hfm
                rw [if_pos hfm] at hval'
                have hcmp : (val != ((List.idxOf far W : Nat) : Int) + 1) = false := by rw [hval']; exact bne_self_eq_false _
                k_steps
                all_goals (try dsimp only)
                exact lpost_led (by assumption) (by assumption) (by k_extra "sub") ⟨rfl, rfl, rfl, rfl, rfl, rfl, rfl, rfl, rfl, _, rfl⟩
              · have hany : (W.any fun y => y == far) = false := any_not.mpr hfm
                rw [if_neg hfm] at hval'
                have hcmp : (val != far + 3) = false := by rw [hval']; exact bne_self_eq_false _
                k_steps
                all_goals (try dsimp only)
                exact lpost_led (by assumption) (by assumption) (by k_extra "sub") ⟨rfl, rfl, rfl, rfl, rfl, rfl, rfl, rfl, rfl, _, rfl⟩
            case go2 =>
              rintro h' tk m' F₅ N₅ ⟨e1, e2, e3, e4, e5, e6, g1, g2, g3, tv, g4⟩
              have F₆ := fr_lit [(Str.ofString "writer", .ref wx), (Str.ofString "reader", .ref rx), (Str.ofString "told", .ref tl), (Str.ofString "rows", .ref D), (Str.ofString "run", .ref r), (Str.ofString "other", .ref ot), (Str.ofString "at", .int (i : Int) t0), (Str.ofString "ahead", .int ahead u1), (Str.ofString "far", .int far u2), (Str.ofString "value", .int val tv)] (List.forall_mem_cons.mpr ⟨e1, List.forall_mem_cons.mpr ⟨e2, List.forall_mem_cons.mpr ⟨e3, List.forall_mem_cons.mpr ⟨e4, List.forall_mem_cons.mpr ⟨e5, List.forall_mem_cons.mpr ⟨e6, List.forall_mem_cons.mpr ⟨g1, List.forall_mem_cons.mpr ⟨g2, List.forall_mem_cons.mpr ⟨g3, List.forall_mem_cons.mpr ⟨g4, List.forall_mem_nil _⟩⟩⟩⟩⟩⟩⟩⟩⟩⟩) F₅
              clear F₅ e1 e2 e3 e4 e5 e6 g1 g2 g3 g4
              dsimp only [kstB] at F₆
              k_steps
              (try dsimp only)
              refine or_end (by assumption) (by assumption) rfl rfl rfl rfl rfl rfl (by k_mem) (by k_mem) (by k_mem) (by k_mem) (by k_mem) (by k_mem) (by k_mem) (by intro p hp; k_ownIn) hown2 hJs hoff' ?_ ?_
              · exact snoc_ints htv _ _
              · simp only [List.length_append, List.length_cons, List.length_nil]; omega
        case done =>
          intro h' tk m' nx hJ F₁ N₁
          refine (let G : Prop := _; (?_ : G))
          have hsz : rvs.toArray.size = run.length := by simp only [List.size_toArray]; omega
          rw [hsz] at hJ
          refine ex8 hJ ?_
          intro ta tb tc ta' tb' tc' tvs tn z9p
          clear hJ
          refine and9 z9p ?_
          clear z9p
          intro e1 e2 e3 e4 e5 e6 z9e6 htv htl
          subst z9e6
          have hk : HeardOk [b1, b2, b3] [o1, o2, o3] run (rowsF [b1, b2, b3] lates 3) := hok.heard
          have hsm : (offS (b1, b2, b3) (o1, o2, o3) run run.length).2 = heardF [b1, b2, b3] [o1, o2, o3] run (rowsF [b1, b2, b3] lates 3) := hok.same
          have hL1 : LstAt PairAt g' r run := ⟨rvs, hrl, hra⟩
          have hr3 : ∀ row ∈ rowsF [b1, b2, b3] lates 3, row.length < 1000 := rowsF_short _ _ (by omega)
          k_unmd
          k_unfold
          generalize (offS (b1, b2, b3) (o1, o2, o3) run run.length).2 = tol at hsm htv
          dsimp only at S₃
          obtain ⟨s1, s2', s3, s4, s5, s6⟩ := S₃
          have F₂ := fr_lit [(Str.ofString "told", .ref tl), (Str.ofString "rows", .ref D), (Str.ofString "run", .ref r), (Str.ofString "other", .ref ot)] (List.forall_mem_cons.mpr ⟨e3, List.forall_mem_cons.mpr ⟨e4, List.forall_mem_cons.mpr ⟨e5, List.forall_mem_cons.mpr ⟨e6, List.forall_mem_nil _⟩⟩⟩⟩) F₁
          clear F₁ e1 e2 e3 e4 e5 e6 q1 q2 q3 q4 q5 q6 nD hoffD
          dsimp only [kstB] at F₂
          k_steps
          (try dsimp only); (try k_unfold)
          refine leaf_ret (by assumption) (by assumption) ?_
          exact congrArg Value.bool (decide_eq_true hsm)


noncomputable def jarJ (sl : Addr × Obj) (i : Nat) (m : Str → Option Value) (nx : List (Addr × Obj)) : Prop :=
  ∃ g x t u, m (Str.ofString "great") = some (.int g t) ∧ m (Str.ofString "mix") = some (.int x u) ∧ nx = [sl] ∧ 0 ≤ g ∧ 0 ≤ x ∧ x < 10007

set_option maxHeartbeats 8000000 in
theorem jar_does (w : World) (sc : Addr) (vs : List Value) (ns : List Int) (hi : IntsAre vs ns) (hn : ns.length ≤ 63) :
    Does w 240 [.ref sc] 2 [] (fun h => h.IsList sc vs.toArray) (fun v news _ => ∃ l g x c t u z n, v = .ref l ∧ (l, listOf #[Value.int g t, .int x u, .int c z] n) ∈ news ∧ 0 ≤ g ∧ 0 ≤ x ∧ x < 10007 ∧ c = 0) := by
  refine' does_of [(Str.ofString "script", .ref sc)] ?ho ?hcd ?hbind ?hloc ?c2 ?c3 ?c4 ?c5 ?cP ?body
  case ho => k_is
  case hcd => k_is
  case hbind => exact fun _ _ => BindsTo.of_eq rfl
  case hloc => exact locs rfl
  case c2 => exact rfl
  case c3 => exact rfl
  case c4 => exact rfl
  case c5 => decide
  case cP => exact fun _ _ g h => is_list_but g h (by simp)
  case body =>
    intro mg mb p loose mean base env outer dp un gd s g' L' h' tk0 cx hdp hun hp B' X' T' G' F' N'
    try k_unmd
    k_fold
    k_steps
    refine stop_on ?_
    rename IntsAre _ (List.take _ _) => hI
    rename List Value => ws
    rename PySem.Addr => D
    refine' src_list (items := List.toArray ws) rfl ?lst (fun it s₂ S => loop_of (nx₀ := [(D, listOf (List.toArray ws) 0)]) (jarJ (D, listOf (List.toArray ws) 0)) S (by assumption) (news_sub (by assumption) ?sub) ?h0 ?hrd ?turn ?done)
    case lst => exact ⟨_, got_news (by k_asm) (by k_mem), rfl, _, rfl⟩
    case sub => k_allIn
    case h0 => exact ⟨0, 3, _, _, rfl, rfl, rfl, by omega, by omega, by omega⟩
    case hrd => exact List.forall_mem_cons.mpr ⟨.inr ⟨_, fun _ _ _ h => by obtain ⟨_, _, _, _, _, _, e, _⟩ := h; rw [e]; exact .head _⟩, List.forall_mem_nil _⟩
    case turn =>
      intro i v m₁ nx h tk own hi hP hoff hJ F₁ N₁
      refine (let G : Prop := _; (?_ : G))
      obtain ⟨y, t, rfl, hy⟩ := ints_at hI (by simpa using hP)
      obtain ⟨g, x, t1, t2, e1, e2, rfl, hg, hx0, hx1⟩ := hJ
      have F₂ := fr_lit [(Str.ofString "great", .int g t1), (Str.ofString "mix", .int x t2)] (List.forall_mem_cons.mpr ⟨e1, List.forall_mem_cons.mpr ⟨e2, List.forall_mem_nil _⟩⟩) F₁
      clear F₁
      dsimp only [kstB] at F₂
      simp only [List.map_cons, List.map_nil, List.cons_append, List.nil_append] at hoff; (try dsimp only [List.map_cons, List.map_nil, List.cons_append, List.nil_append] at N₁)
      k_unmd
      k_unfold
      try k_unmd
      k_fold
      k_steps
      all_goals (try dsimp only)
      all_goals (refine end_next [(D, listOf (List.toArray ws) 0)] (by assumption) (by assumption) (by k_allIn) (by intro p hp; k_ownIn) hoff ⟨_, _, _, _, rfl, rfl, rfl, ?_, fmod_lo _ (by decide), fmod_hi _ (by decide)⟩)
      all_goals (first | assumption | omega)
    case done =>
      intro h' tk m' nx hJ F₁ N₁
      refine (let G : Prop := _; (?_ : G))
      obtain ⟨g, x, t1, t2, e1, e2, rfl, hg, hx0, hx1⟩ := hJ
      have F₂ := fr_lit [(Str.ofString "great", .int g t1), (Str.ofString "mix", .int x t2)] (List.forall_mem_cons.mpr ⟨e1, List.forall_mem_cons.mpr ⟨e2, List.forall_mem_nil _⟩⟩) F₁
      clear F₁
      dsimp only [kstB] at F₂
      k_unmd
      k_unfold
      k_steps
      (try dsimp only); (try k_unfold)
      refine leaf_ret (by assumption) (by assumption) ?_
      exact ⟨_, _, _, _, _, _, _, _, rfl, by k_mem, by assumption, by assumption, by assumption, rfl⟩

theorem word71 : True := by
  (k_with "w:call ref" => row_timed "z" ((k_here; (with_reducible show wpAny _ _ (call (Value.ref 247) _) _ _ _); (k_dflt (refine' does_use1 (take_does _ _ _ _ _ _ _ _ _ _ _ ?z9hg ?z9hm0 ?z9hm1 ?z9hc0 ?z9hc1 ?z9hm ?z9hmm) ?z9cx ?z9F ?z9N ?z9U ?z9hp ?z9hdp ?z9hun ?_)); (case z9cx => k_dflt k_asm); (case z9F => k_dflt k_asm); (case z9N => k_dflt k_asm); (case z9hp => k_dflt (exact trivial)); (case z9U => k_updF); (case z9hdp => ((try dsimp only [top]); omega)); (case z9hun => ((try dsimp only [top]); omega)); (case z9hg => omega); (case z9hm0 => omega); (case z9hm1 => omega); (case z9hc0 => omega); (case z9hc1 => omega); (case z9hm => omega); (case z9hmm => omega); k_whole; (k_dflt (rintro z9v' z9new' z9h' z9tk' z9F' z9N' z9hnew' z9st' z9hpost'; refine (let z9G' : Prop := _; (?_ : z9G')); obtain ⟨z9d', z9t', z9e', z9hd0', z9hd1', z9g', z9mx', z9c', z9t1', z9t2', z9t3', z9n', z9hg', z9hm0', z9hm1', z9hc0', z9hc1', z9hm'⟩ := z9hpost')); subst z9e'; (replace z9N' := z9N' _ z9hm'); (try dsimp only at z9N'); clear z9hnew' z9hm' z9st'; (try k_unmd); (try k_unfold); (try dsimp only); (try k_fold))))
  trivial

theorem word72 : True := by
  (k_with "w:eval ListComp" => row_timed "z" ((k_here; (k_dflt (refine' comp_eval ?z9F ?z9hclos ?z9hcell ?z9hkind ?z9hnames ?z9hx ?_ ?z9hs)); (case z9F => k_dflt k_asm); (case z9hclos => k_dflt exact rfl); (case z9hcell => k_dflt decide); (case z9hkind => exact rfl); (case z9hnames => k_dflt decide); (case z9hx => k_dflt exact rfl); (case z9hs => k_dflt (intro _; exact rfl)); k_whole)))
  trivial


noncomputable abbrev jarO (g mx c : Int) (t1 t2 t3 : Tok) (n : Nat) : Obj := listOf #[Value.int g t1, .int mx t2, .int c t3] n
theorem draw_norm {P : Prop} {h₀ h : Heap} {L jar : Addr} {led : List (Addr × Obj)} {g mx c : Int} {t1 t2 t3 : Tok} {n : Nat} (lim : Int) (rest : List (Addr × Obj)) (N : News h₀ L h led) (hm : (jar, jarO g mx c t1 t2 t3 n) ∈ led) (hr : ∀ p ∈ rest, p ∈ led)
    (h1 : 0 ≤ g) (h2 : 0 ≤ mx) (h3 : mx < 10007) (h4 : 0 ≤ c) (h5 : c ≤ lim)
    (k : ∀ (g mx c : Int) (t1 t2 t3 : Tok) (n : Nat), 0 ≤ g → 0 ≤ mx → mx < 10007 → 0 ≤ c → c ≤ lim → News h₀ L h ((jar, jarO g mx c t1 t2 t3 n) :: rest) → P) : P :=
  k g mx c t1 t2 t3 n h1 h2 h3 h4 h5 (List.forall_mem_cons.mpr ⟨N _ hm, fun p hp => N p (hr p hp)⟩)
noncomputable def drawJ (jar : Addr) (lim : Int) (rest : List (Addr × Obj)) (lo : Int) (i : Nat) (ys : List Value) (nx : List (Addr × Obj)) : Prop :=
  ∃ g mx c t1 t2 t3 n, 0 ≤ g ∧ 0 ≤ mx ∧ mx < 10007 ∧ 0 ≤ c ∧ c ≤ lim + (i : Int) ∧ nx = (jar, jarO g mx c t1 t2 t3 n) :: rest ∧ ∃ ns, IntsAre ys ns ∧ ns.length = i ∧ ∀ x ∈ ns, lo ≤ x ∧ x ≤ lo + 7
theorem elt_fix {h₀ h' : Heap} {L C D : Addr} {m : Str → Option Value} {J : List Value → List (Addr × Obj) → Prop} {ys : List Value} {own nx nx' : List (Addr × Obj)} {oC oD : Obj} {s₁ : Shared} {y : Value} {tk : Nat} (F : Fr h₀ L h' m) (N : News h₀ L h' ((C, oC) :: (D, oD) :: (nx' ++ own)))
    (h1 : OwnOff own (nx.map (·.1))) (h3 : OwnOff nx [C, D]) (e : nx'.map (·.1) = nx.map (·.1)) (hj : J (ys ++ [y]) nx') : EltEnd h₀ L m J ys ((C, oC) :: (D, oD) :: own) s₁ y { s₁ with heap := h', toks := tk } := by
  refine elt_end F N hj ?_ ?_ ?_
  · rw [e]
    intro p hp b hb
    rcases List.mem_cons.mp hp with rfl | hp
    · obtain ⟨q, hq, rfl⟩ := List.mem_map.mp hb
      exact fun e => h3 q hq C (.head _) e.symm
    · rcases List.mem_cons.mp hp with rfl | hp
      · obtain ⟨q, hq, rfl⟩ := List.mem_map.mp hb
        exact fun e => h3 q hq D (.tail _ (.head _)) e.symm
      · exact h1 p hp b hb
  · intro p hp
    exact .tail _ (.tail _ (List.mem_append_left _ hp))
  · intro p hp
    rcases List.mem_cons.mp hp with rfl | hp
    · exact .head _
    · rcases List.mem_cons.mp hp with rfl | hp
      · exact .tail _ (.head _)
      · exact .tail _ (.tail _ (List.mem_append_right _ hp))
theorem draw_end {h₀ h' : Heap} {L C D jar : Addr} {m : Str → Option Value} {lim lo g mx c x : Int} {t1 t2 t3 tx : Tok} {n i : Nat} {o oC oD : Obj} {ys : List Value} {own : List (Addr × Obj)} {ms : List Int} {s₁ : Shared} {tk : Nat} (rest : List (Addr × Obj)) (F : Fr h₀ L h' m)
    (N : News h₀ L h' ((C, oC) :: (D, oD) :: (jar, listOf #[Value.int g t1, .int mx t2, .int c t3] n) :: (rest ++ own))) (h1 : OwnOff own (jar :: rest.map (·.1))) (h3 : OwnOff ((jar, o) :: rest) [C, D])
    (b1 : 0 ≤ g) (b2 : 0 ≤ mx) (b3 : mx < 10007) (b4 : 0 ≤ c) (b5 : c ≤ lim + (i : Int) + 1) (hms : IntsAre ys ms) (hml : ms.length = i) (hma : ∀ x ∈ ms, lo ≤ x ∧ x ≤ lo + 7) (x1 : lo ≤ x) (x2 : x ≤ lo + 7) :
    EltEnd h₀ L m (drawJ jar lim rest lo (i + 1)) ys ((C, oC) :: (D, oD) :: own) s₁ (.int x tx) { s₁ with heap := h', toks := tk } :=
  elt_fix (nx := (jar, o) :: rest) (nx' := (jar, listOf #[Value.int g t1, .int mx t2, .int c t3] n) :: rest) F N h1 h3 rfl
    ⟨g, mx, c, t1, t2, t3, n, b1, b2, b3, b4, by rw [Int.natCast_add]; omega, rfl, _, snoc_ints hms x tx, by simp [hml], fun y hy => by
      rcases List.mem_append.mp hy with hy | hy
      · exact hma y hy
      · rw [List.mem_singleton.mp hy]; exact ⟨x1, x2⟩⟩
theorem snoc_all {P : Int → Prop} {ns : List Int} {x : Int} (h : ∀ y ∈ ns, P y) (hx : P x) : ∀ y ∈ ns ++ [x], P y := by
  intro y hy
  rcases List.mem_append.mp hy with hy | hy
  · exact h y hy
  · rw [List.mem_singleton.mp hy]; exact hx

set_option maxHeartbeats 8000000 in
theorem other_does (w : World) (jar : Addr) (g mx c : Int) (t1 t2 t3 : Tok) (n : Nat) (bg : Addr) (vs : List Value) (ns : List Int) (low : Int) (tl : Tok) (hg : 0 ≤ g) (hm0 : 0 ≤ mx) (hm1 : mx < 10007) (hc0 : 0 ≤ c) (hc1 : c < 900000) (hi : IntsAre vs ns) (hn : ns.length = 4) (h1 : ∀ x ∈ ns, 1 ≤ x) (hl : 1 ≤ low) (hl2 : low < 1000) (hj : bg ≠ jar) :
    Does w 252 [.ref jar, .ref bg, .int low tl] 3 [(jar, jarO g mx c t1 t2 t3 n)] (fun h => h.IsList bg vs.toArray) (fun v news _ => JarIs jar (c + 6) news ∧ ∃ l vs ns n, v = .ref l ∧ l ≠ jar ∧ (l, listOf (List.toArray vs) n) ∈ news ∧ IntsAre vs ns ∧ ns.length = 4 ∧ ∀ x ∈ ns, 1 ≤ x) := by
  refine' does_ofC [(Str.ofString "jar", .ref jar), (Str.ofString "begun", .ref bg), (Str.ofString "low", .int low tl)] ?ho ?hcd ?hbind ?kB ?kD ?c2 ?c3 ?c4 ?cP ?body
  case ho => k_is
  case hcd => k_is
  case hbind => exact fun _ _ => BindsTo.of_eq rfl
  case kB => exact rfl
  case kD => decide +kernel
  case c2 => exact rfl
  case c3 => exact rfl
  case c4 => exact rfl
  case cP => exact fun _ _ g h => is_list_but g h (by simp [hj])
  case body =>
    intro mg mb p loose mean base env outer dp un gd s g' L' h' tk0 cells' cx hdp hun hp B' X' T' G' F' N' Y' l1
    (try k_lt l1)
    k_cells Y'
    (try simp only [List.cons_append, List.nil_append] at N')
    (try dsimp only)
    rename_i o1 o2 d1 d2
    try k_unmd
    k_fold
    k_steps
    · refine stop_on ?_
      refine draw_norm (jar := jar) (c + 2) [(L' + 1 + 1, o1), (L' + 1, o2)] (by assumption) (by k_mem) (by k_allIn) (by assumption) (by assumption) (by assumption) (by omega) (by omega) (fun g2 mx2 c2 u1 u2 u3 n2 q1 q2 q3 q4 q5 N2 => ?_)
      refine' src_range (n := 4) rfl (by assumption) ?small ?size (fun it s₂ S => comp_of (drawJ jar (c + 2) [(L' + 1 + 1, o1), (L' + 1, o2)] low) S ?hsz (by assumption) N2 ?h0 (fun _ h => nomatch h) ?turn ?done)
      case small => decide
      case size => decide
      case hsz => (rw [sizeLine_eq]; omega)
      case h0 => exact ⟨_, _, _, _, _, _, _, q1, q2, q3, q4, by omega, rfl, [], IntsAre.nil, rfl, fun _ h => nomatch h⟩
      case turn =>
        intro i v ys nx h tk C D oC cnt own mC hi' hP hys h1o h2o hCD h3o hJ F₁ N₁ nsC
        refine (let G : Prop := _; (?_ : G))
        refine ex7 hJ ?_
        intro g3 mx3 c3 v1 v2 v3 n3 z9p
        clear hJ
        refine and7 z9p ?_
        clear z9p
        intro r1 r2 r3 r4 r5 z9e5 z9t
        obtain ⟨ms, hms, hml, hma⟩ := z9t
        subst z9e5
        simp only [List.cons_append, List.nil_append, List.map_cons, List.map_nil, jarO] at h1o h3o; (try dsimp only [List.cons_append, List.nil_append, List.map_cons, List.map_nil, jarO] at N₁)
        have y1 := off_far h3o (.head _)
        obtain ⟨tk, rfl⟩ := hP
        k_unmd
        k_unfold
        try k_unmd
        k_fold
        k_steps
        (try dsimp only)
        exact draw_end [(L' + 1 + 1, o1), (L' + 1, o2)] (by assumption) (by assumption) h1o h3o (by assumption) (by assumption) (by assumption) (by assumption) (by omega) hms hml hma (by omega) (by omega)
      case done =>
        intro D ys cnt nx h' tk F₁ N₁ hoff hys hJ
        refine (let G : Prop := _; (?_ : G))
        refine ex7 hJ ?_
        intro g3 mx3 c3 v1 v2 v3 n3 z9p
        clear hJ
        refine and7 z9p ?_
        clear z9p
        intro r1 r2 r3 r4 r5 z9e5 z9t
        obtain ⟨ms, hms, hml, hma⟩ := z9t
        subst z9e5
        have y1 := hoff _ (.head _) D (.head _)
        k_unmd
        k_unfold
        k_steps
        (try dsimp only); (try k_unfold)
        refine leaf_ret (by assumption) (by assumption) ?_
        exact ⟨⟨_, _, _, _, _, _, _, r1, r2, r3, r4, by omega, by k_mem⟩, _, _, _, _, rfl, fun e => y1 e.symm, by k_mem, hms, hml, fun x hx => by have := hma x hx; omega⟩
    all_goals (try dsimp only)
    all_goals (try k_unfold)
    all_goals (refine leaf_ret (by assumption) (by assumption) ?_)
    all_goals (refine' ⟨⟨_, _, _, _, _, _, _, ?_, ?_, ?_, ?_, ?_, by k_mem⟩, _, _, _, _, rfl, neN (by omega), by k_mem, by assumption, ?_, ?_⟩)
    all_goals (try first | assumption | omega)
    all_goals (try (simp only [List.length_append, List.length_take, List.length_drop, List.length_cons, List.length_nil]; omega))
    all_goals (intro x hx; simp only [List.mem_append, List.mem_singleton] at hx)
    · rcases hx with (hx | rfl) | hx
      · exact h1 _ (List.mem_of_mem_take hx)
      · omega
      · exact h1 _ (List.mem_of_mem_drop hx)
    · rcases hx with hx | hx
      · exact h1 _ (List.mem_of_mem_drop hx)
      · exact h1 _ (List.mem_of_mem_take hx)


noncomputable def intsJ (rest : List (Addr × Obj)) (lo : Int) (i : Nat) (ys : List Value) (nx : List (Addr × Obj)) : Prop := nx = rest ∧ ∃ ns, IntsAre ys ns ∧ ns.length = i ∧ ∀ x ∈ ns, lo ≤ x

theorem word73 : True := by
  (k_with "w:subscriptTail Name BinOp ref int" => row_timed "z" ((k_here; (with_reducible show wpAny _ _ (subscriptTail _ _ (Value.ref _) (Value.int _ _)) _ _ _); (with_unfolding_all refine' item_list_ints_neg ?z9k1 ?z9k2 ?z9k3 ?z9k4 ?z9k5 ?_; (case z9k1 => is_list); (case z9k2 => l_ints); (case z9k3 => omega); (case z9k4 => omega); (case z9k5 => omega); k_whole); intro _)))
  trivial


noncomputable def farsB (jar pl fl : Addr) (free : Int) (tf : Tok) (tail : List (Addr × Obj)) (lim : Int) (k p q : Nat) (m : Str → Option Value) (nx : List (Addr × Obj)) : Prop :=
  ∃ g mx c t1 t2 t3 n pvs pn ps fvs fn fs, 0 ≤ g ∧ 0 ≤ mx ∧ mx < 10007 ∧ 0 ≤ c ∧ c ≤ lim ∧ m (Str.ofString "jar") = some (.ref jar) ∧ m (Str.ofString "pool") = some (.ref pl) ∧ m (Str.ofString "found") = some (.ref fl) ∧ m (Str.ofString "free") = some (.int free tf) ∧
    nx = (fl, listOf (List.toArray fvs) fn) :: (pl, listOf (List.toArray pvs) pn) :: (jar, jarO g mx c t1 t2 t3 n) :: tail ∧ IntsAre pvs ps ∧ ps.length = p ∧ (∀ x ∈ ps, 1 ≤ x) ∧ IntsAre fvs fs ∧ q ≤ fs.length ∧ fs.length ≤ k ∧ ∀ x ∈ fs, 1 ≤ x
theorem fars_norm {P : Prop} {h₀ h : Heap} {L jar pl fl : Addr} {m : Str → Option Value} {led : List (Addr × Obj)} {g mx c free : Int} {t1 t2 t3 tf : Tok} {n pn fn p : Nat} {pvs : List Value} {ps : List Int} (lim : Int) (F : Fr h₀ L h m) (N : News h₀ L h led)
    (e1 : m (Str.ofString "jar") = some (.ref jar)) (e2 : m (Str.ofString "pool") = some (.ref pl)) (e3 : m (Str.ofString "found") = some (.ref fl)) (e4 : m (Str.ofString "free") = some (.int free tf))
    (m1 : (jar, jarO g mx c t1 t2 t3 n) ∈ led) (m2 : (pl, listOf (List.toArray pvs) pn) ∈ led) (m3 : (fl, listOf #[] fn) ∈ led)
    (h1 : 0 ≤ g) (h2 : 0 ≤ mx) (h3 : mx < 10007) (h4 : 0 ≤ c) (h5 : c ≤ lim) (hp : IntsAre pvs ps) (hl : ps.length = p) (ha : ∀ x ∈ ps, 1 ≤ x) (hne : @Ne Nat fl pl ∧ @Ne Nat fl jar ∧ @Ne Nat pl jar)
    (k : ∀ (fl : Addr) (m : Str → Option Value) (nx : List (Addr × Obj)), Far fl [pl, jar] → Far pl [jar] → Fr h₀ L h m → News h₀ L h nx → farsB jar pl fl free tf [] lim 0 p 0 m nx → P) : P :=
  k fl m [(fl, listOf #[] fn), (pl, listOf (List.toArray pvs) pn), (jar, jarO g mx c t1 t2 t3 n)] (List.forall_mem_cons.mpr ⟨hne.1, List.forall_mem_cons.mpr ⟨hne.2.1, List.forall_mem_nil _⟩⟩) (List.forall_mem_cons.mpr ⟨hne.2.2, List.forall_mem_nil _⟩) F
    (List.forall_mem_cons.mpr ⟨N _ m3, List.forall_mem_cons.mpr ⟨N _ m2, List.forall_mem_cons.mpr ⟨N _ m1, List.forall_mem_nil _⟩⟩⟩)
    ⟨g, mx, c, t1, t2, t3, n, pvs, pn, ps, [], fn, [], h1, h2, h3, h4, h5, e1, e2, e3, e4, rfl, hp, hl, ha, IntsAre.nil, Nat.le_refl _, Nat.le_refl _, fun _ h => nomatch h⟩
section
variable {prog : Program} {w : World} {A : Around} {E : Value → Shared → Prop} {s : Shared}
theorem src_upto {r : Addr} {b : Int} {t u v : Tok} {target : Expr} (hh : A.handled = none) (hr : IsRange s.heap r 0 b 1 t u v) (hb : b < 1000) (hb0 : 0 ≤ b) {Q : Value → Shared → Prop}
    (k : ∀ (n : Nat) it s₂, (n : Int) = b → SrcAt prog w A target n (fun i _ v => ∃ t, v = .int (0 + (i : Int) * 1) t) [] s it s₂ → Q it s₂) : wpAny (model prog w) A (pyIter (.ref r)) Q E s :=
  src_range (n := b.toNat) hh hr (small_one (by omega) (by omega) (by omega) (by omega)) (by rw [rangeSize_nat]; simp) fun it s₂ S => k _ it s₂ (by omega) S
end
theorem tail_next {h₀ h' : Heap} {L : Addr} {J : (Str → Option Value) → List (Addr × Obj) → Prop} {m' : Str → Option Value} {own own2 own3 : List (Addr × Obj)} {a b c : Addr × Obj} {s₁ : Shared} {tk : Nat} (F : Fr h₀ L h' m') (N : News h₀ L h' (a :: b :: c :: own3)) (e : own3 = own ++ own2)
    (ha : OwnOff own2 (a.1 :: b.1 :: c.1 :: own.map (·.1))) (hj : J m' (a :: b :: c :: own)) : SrcTurn h₀ L J own2 s₁ .next { s₁ with heap := h', toks := tk } := by
  subst e
  refine src_next F N hj ha (fun p hp => ?_) fun p hp => .tail _ (.tail _ (.tail _ (List.mem_append_right _ hp)))
  simp only [List.mem_cons, List.mem_append] at hp ⊢
  rcases hp with h | h | h | h <;> simp [h]
theorem getD_all {P : Int → Prop} {ns : List Int} {k : Nat} (hk : k < ns.length) (h : ∀ x ∈ ns, P x) : P (ns.getD k 0) := by
  simp only [List.getD, List.getElem?_eq_getElem hk, Option.getD_some]; exact h _ (List.getElem_mem hk)
theorem off_app {own own2 : List (Addr × Obj)} {a b : List Addr} (h1 : OwnOff own a) (h2 : OwnOff own2 (a ++ b)) : OwnOff (own ++ own2) a := by
  intro p hp x hx
  rcases List.mem_append.mp hp with hp | hp
  · exact h1 p hp x hx
  · exact h2 p hp x (List.mem_append_left _ hx)

set_option maxHeartbeats 8000000 in
theorem fars_does (w : World) (jar : Addr) (g mx c : Int) (t1 t2 t3 : Tok) (n : Nat) (low free : Int) (tl tf : Tok) (hg : 0 ≤ g) (hm0 : 0 ≤ mx) (hm1 : mx < 10007) (hc0 : 0 ≤ c) (hc1 : c < 900000) (hl : 1 ≤ low) (hl2 : low < 1000) (hf1 : 1 ≤ free) (hf2 : free ≤ 2) :
    Does w 257 [.ref jar, .int low tl, .int free tf] 3 [(jar, jarO g mx c t1 t2 t3 n)] (fun _ => True) (fun v news _ => JarIs jar (c + 30) news ∧ ∃ l vs ns n, v = .ref l ∧ l ≠ jar ∧ (l, listOf (List.toArray vs) n) ∈ news ∧ IntsAre vs ns ∧ ns.length ≤ 15 ∧ ∀ x ∈ ns, 1 ≤ x) := by
  refine' does_ofC [(Str.ofString "jar", .ref jar), (Str.ofString "low", .int low tl), (Str.ofString "free", .int free tf)] ?ho ?hcd ?hbind ?kB ?kD ?c2 ?c3 ?c4 ?cP ?body
  case ho => k_is
  case hcd => k_is
  case hbind => exact fun _ _ => BindsTo.of_eq rfl
  case kB => exact rfl
  case kD => decide +kernel
  case c2 => exact rfl
  case c3 => exact rfl
  case c4 => exact rfl
  case cP => exact fun _ _ _ h => h
  case body =>
    intro mg mb p loose mean base env outer dp un gd s g' L' h' tk0 cells' cx hdp hun hp B' X' T' G' F' N' Y' l1
    (try k_lt l1)
    k_cells Y'
    (try simp only [List.cons_append, List.nil_append] at N')
    (try dsimp only)
    rename_i o1 d1
    try k_unmd
    k_fold
    k_steps
    refine stop_on ?_
    refine' src_range (n := 8) rfl (by assumption) ?small ?size (fun it s₂ S => comp_of (nx₀ := [(L' + 1, o1), (jar, jarO g mx c t1 t2 t3 n)]) (intsJ [(L' + 1, o1), (jar, jarO g mx c t1 t2 t3 n)] 1) S ?hsz (by assumption) (news_sub (by assumption) ?sub) ?h0 (fun _ h => nomatch h) ?turn ?done)
    case sub => k_allIn
    case small => decide
    case size => decide
    case hsz => (rw [sizeLine_eq]; omega)
    case h0 => exact ⟨rfl, [], IntsAre.nil, rfl, fun _ h => nomatch h⟩
    case turn =>
      intro i v ys nx h tk C D oC cnt own mC hi' hP hys h1o h2o hCD h3o hJ F₁ N₁ nsC
      refine (let G : Prop := _; (?_ : G))
      obtain ⟨rfl, ms, hms, hml, hma⟩ := hJ
      simp only [List.cons_append, List.nil_append, List.map_cons, List.map_nil, jarO] at h1o h3o; (try dsimp only [List.cons_append, List.nil_append, List.map_cons, List.map_nil, jarO] at N₁)
      obtain ⟨tk, rfl⟩ := hP
      k_unmd
      k_unfold
      try k_unmd
      k_fold
      k_steps
      (try dsimp only)
      exact elt_fix (nx := [(L' + 1, o1), (jar, jarO g mx c t1 t2 t3 n)]) (nx' := [(L' + 1, o1), (jar, jarO g mx c t1 t2 t3 n)]) (by assumption) (by assumption) h1o h3o rfl ⟨rfl, _, snoc_ints hms _ _, by simp [hml], snoc_all hma (by omega)⟩
    case done =>
      intro D ys cnt nx h' tk F₁ N₁ hoff hys hJ
      refine (let G : Prop := _; (?_ : G))
      obtain ⟨rfl, ps, hps, hpl, hpa⟩ := hJ
      have n1 := off_far hoff (.head _)
      have n2 := off_far hoff (.tail _ (.head _))
      dsimp only [jarO] at N₁
      k_unmd
      k_unfold
      k_steps
      refine stop_on ?_
      refine fars_norm (jar := jar) (pl := D) (p := 8) (c + 1) (by assumption) (by assumption) rfl rfl rfl rfl (by k_mem) (by k_mem) (by k_mem) (by assumption) (by assumption) (by assumption) (by assumption) (by omega) hps hpl hpa ⟨by omega, by omega, far_ne' n2 (.head _)⟩ (fun fl m nx y1 y2 F₃ N₃ J₃ => ?_)
      refine' src_upto rfl (by assumption) (by omega) (by omega) (fun nn it s₂ hnn S => loop_of (fun i => farsB jar D fl free tf [] (c + 1 + 4 * i) (3 * i) (8 - i) 0) S F₃ N₃ ?h0 (fun _ h => nomatch h) ?turn ?done)
      case h0 => simpa using J₃
      case turn =>
        intro i v m₁ nx h tk own hi hP hoff hJ F₁ N₁
        refine (let G : Prop := _; (?_ : G))
        obtain ⟨tv, rfl⟩ := hP
        refine ex13 hJ ?_
        intro g2 mx2 c2 u1 u2 u3 n2 pvs pn ps2 fvs fn fs z9p
        clear hJ
        refine and17 z9p ?_
        clear z9p
        intro b1 b2 b3 b4 b5 e1 e2 e3 e4 z9e9 hps2 hpl2 hpa2 hfs hfq hfk hfa
        subst z9e9
        have F₂ := fr_lit [(Str.ofString "jar", .ref jar), (Str.ofString "pool", .ref D), (Str.ofString "found", .ref fl), (Str.ofString "free", .int free tf)] (List.forall_mem_cons.mpr ⟨e1, List.forall_mem_cons.mpr ⟨e2, List.forall_mem_cons.mpr ⟨e3, List.forall_mem_cons.mpr ⟨e4, List.forall_mem_nil _⟩⟩⟩⟩) F₁
        clear F₁
        dsimp only [kstB] at F₂
        simp only [List.map_cons, List.map_nil, List.cons_append, List.nil_append, jarO] at hoff; (try dsimp only [List.map_cons, List.map_nil, List.cons_append, List.nil_append, jarO] at N₁)
        obtain ⟨p, hp8⟩ : ∃ p, p = 8 - i := ⟨_, rfl⟩
        rw [← hp8] at hpl2
        have hpv : pvs.length = p := hps2.length.trans hpl2
        have hfl := hfs.length
        have hp3 : 3 ≤ p := by omega
        have hp9 : p < 9 := by omega
        k_unmd
        k_unfold
        try k_unmd
        k_fold
        k_steps
        refine stop_on ?_
        refine' src_upto rfl (by assumption) (by omega) (by omega) (fun nn2 it s₂ hnn2 S => loop_of (fun j => farsB jar D fl free tf own (c + 1 + 4 * i + 2 + j) (3 * i + 1 + j) (p - 1) 1) S (by assumption) (by assumption) ?h02 (fun _ h => nomatch h) ?turn2 ?done2)
        case h02 => exact ⟨_, _, _, _, _, _, _, _, _, _, _, _, _, by assumption, by assumption, by assumption, by assumption, by omega, rfl, rfl, rfl, rfl, rfl, by assumption, by rw [List.length_eraseIdx, if_pos (by omega)]; omega, fun x hx => hpa2 x (List.mem_of_mem_eraseIdx hx), snoc_ints hfs _ _, by simp, by simp; omega, snoc_all hfa (getD_all (by omega) hpa2)⟩
        case turn2 =>
          intro j v m₁ nx h tk own2 hj hP hoff2 hJ F₁ N₁
          refine (let G : Prop := _; (?_ : G))
          obtain ⟨tv, rfl⟩ := hP
          refine ex13 hJ ?_
          intro g4 mx4 c4 u1 u2 u3 n4 pvs4 pn4 ps4 fvs4 fn4 fs4 z9p
          clear hJ
          refine and17 z9p ?_
          clear z9p
          intro b1 b2 b3 b4 b5 e1 e2 e3 e4 z9e9 hps4 hpl4 hpa4 hfs4 hfq4 hfk4 hfa4
          subst z9e9
          have F₂ := fr_lit [(Str.ofString "jar", .ref jar), (Str.ofString "pool", .ref D), (Str.ofString "found", .ref fl), (Str.ofString "free", .int free tf)] (List.forall_mem_cons.mpr ⟨e1, List.forall_mem_cons.mpr ⟨e2, List.forall_mem_cons.mpr ⟨e3, List.forall_mem_cons.mpr ⟨e4, List.forall_mem_nil _⟩⟩⟩⟩) F₁
          clear F₁
          dsimp only [kstB] at F₂
          obtain ⟨own3, h3⟩ : ∃ o, o = own ++ own2 := ⟨_, rfl⟩
          simp only [List.map_cons, List.cons_append, jarO] at hoff2; (try dsimp only [List.map_cons, List.cons_append, jarO] at N₁)
          rw [← h3] at N₁
          have O₃ : OwnOff own3 [fl, D, jar] := h3 ▸ off_app (a := [fl, D, jar]) hoff hoff2
          obtain ⟨k, hk⟩ : ∃ k, fvs4.length = k := ⟨_, rfl⟩
          have hfl4 := hfs4.length
          clear hoff hps hps2 hfs
          k_unmd
          k_unfold
          try k_unmd
          k_fold
          k_steps
          (try dsimp only)
          refine tail_next (by assumption) (by assumption) h3 hoff2 ⟨_, _, _, _, _, _, _, _, _, _, _, _, _, by assumption, by assumption, by assumption, by assumption, ?_, rfl, rfl, rfl, rfl, rfl, hps4, hpl4, hpa4, snoc_ints hfs4 _ _, by simp, ?_, snoc_all hfa4 (getD_all (by omega) hfa4)⟩
          · omega
          · simp only [List.length_append, List.length_cons, List.length_nil]; omega
        case done2 =>
          intro h' tk m' nx hJ F₁ N₁
          refine (let G : Prop := _; (?_ : G))
          refine ex13 hJ ?_
          intro g4 mx4 c4 u1 u2 u3 n4 pvs4 pn4 ps4 fvs4 fn4 fs4 z9p
          clear hJ
          refine and17 z9p ?_
          clear z9p
          intro b1 b2 b3 b4 b5 e1 e2 e3 e4 z9e9 hps4 hpl4 hpa4 hfs4 hfq4 hfk4 hfa4
          subst z9e9
          k_unmd
          k_unfold
          k_steps
          (try dsimp only)
          refine end_next [(fl, listOf (List.toArray fvs4) fn4), (D, listOf (List.toArray pvs4) pn4), (jar, jarO g4 mx4 c4 u1 u2 u3 n4)] F₁ N₁ (by k_allIn) (by intro p hp; k_ownIn) hoff ⟨g4, mx4, c4, u1, u2, u3, n4, pvs4, pn4, ps4, fvs4, fn4, fs4, b1, b2, b3, b4, by omega, e1, e2, e3, e4, rfl, hps4, by omega, hpa4, hfs4, by omega, by omega, hfa4⟩
      case done =>
        intro h' tk m' nx hJ F₁ N₁
        refine (let G : Prop := _; (?_ : G))
        refine ex13 hJ ?_
        intro g2 mx2 c2 u1 u2 u3 n2 pvs pn ps2 fvs fn fs z9p
        clear hJ
        refine and17 z9p ?_
        clear z9p
        intro b1 b2 b3 b4 b5 e1 e2 e3 e4 z9e9 hps2 hpl2 hpa2 hfs hfq hfk hfa
        subst z9e9
        have F₂ := fr_lit [(Str.ofString "jar", .ref jar), (Str.ofString "pool", .ref D), (Str.ofString "found", .ref fl), (Str.ofString "free", .int free tf)] (List.forall_mem_cons.mpr ⟨e1, List.forall_mem_cons.mpr ⟨e2, List.forall_mem_cons.mpr ⟨e3, List.forall_mem_cons.mpr ⟨e4, List.forall_mem_nil _⟩⟩⟩⟩) F₁
        clear F₁
        dsimp only [kstB] at F₂
        k_unmd
        k_unfold
        k_steps
        (try dsimp only); (try k_unfold)
        refine leaf_ret (by assumption) (by assumption) ?_
        exact ⟨⟨_, _, _, _, _, _, _, b1, b2, b3, b4, by omega, by k_mem⟩, _, _, _, _, rfl, far_ne y1 (.tail _ (.head _)), by k_mem, hfs, by omega, hfa⟩

theorem word74 : True := by
  (k_with "w:call type:list" => row_timed "z" ((k_here; (with_reducible show wpAny _ _ (call (Value.type _) [Value.ref _]) _ _ _); (k_dflt (refine' list_copyK ?z9k1 ?z9k2 ?z9k3 ?_ ?z9z; (case z9k1 => k_asm); (case z9k2 => k_asm); (case z9k3 => first | exact stays_list (Fr.keep (by k_asm)) (by assumption) | exact stays_list (Fr.keep (by k_asm)) (stays_list (Fr.keep (by assumption)) (by assumption)) | exact ⟨_, got_news (by k_asm) (by k_mem), rfl, _, rfl⟩); (case z9z => (simp only [List.size_toArray]; rw [sizeLine_eq]; omega)); k_whole)); intro z9D' z9c' z9h' z9F' z9N' z9l1; (try k_lt z9l1); (try k_sweep))))
  trivial

set_option maxHeartbeats 8000000 in
theorem copy_does (w : World) (x dx l : Addr) (h1 : Int) (k1 : Tok) (vs : List Value) (ns : List Int) (hi : IntsAre vs ns) (hn : ns.length = 4) :
    Does w 181 [.ref x] 3 [] (fun h => (h.get? x = some (instObj 184 dx) ∧ h.get? dx = some (dictOf [⟨h1, .str "row" k1, .ref l⟩] 1)) ∧ h.IsList l vs.toArray) (fun v news _ => ∃ y dy ly h2 k2 n, v = .ref y ∧ (y, instObj 184 dy) ∈ news ∧ (dy, dictOf [⟨h2, .str "row" k2, .ref ly⟩] 1) ∈ news ∧ (ly, listOf (List.toArray vs) n) ∈ news ∧ @Ne Nat ly dy ∧ @Ne Nat y dy ∧ @Ne Nat ly y) := by
  refine' does_of [(Str.ofString "self", .ref x)] ?ho ?hcd ?hbind ?hloc ?c2 ?c3 ?c4 ?c5 ?cP ?body
  case ho => k_is
  case hcd => k_is
  case hbind => exact fun _ _ => BindsTo.of_eq rfl
  case hloc => exact locs rfl
  case c2 => exact rfl
  case c3 => exact rfl
  case c4 => exact rfl
  case c5 => decide
  case cP => exact fun _ _ g h => ⟨⟨g _ _ h.1.1 (by simp), g _ _ h.1.2 (by simp)⟩, is_list_but g h.2 (by simp)⟩
  case body =>
    intro mg mb p loose mean base env outer dp un gd s g' L' h' tk0 cx hdp hun hp B' X' T' G' F' N'
    obtain ⟨⟨hpx, hpd⟩, hpll⟩ := hp
    have hvl := hi.length
    try k_unmd
    k_fold
    k_steps
    (try dsimp only); (try k_unfold)
    refine leaf_ret (by assumption) (by assumption) ?_
    exact ⟨_, _, _, _, _, _, rfl, by k_mem, by k_mem, by k_mem, neN (by omega), neN (by omega), neN (by omega)⟩

theorem word75 : True := by
  (k_with "w:call ref" => row_timed "z" ((k_here; (with_reducible show wpAny _ _ (call (Value.ref 181) _) _ _ _); (k_dflt (refine' does_use0 (copy_does _ _ _ _ _ _ _ _ ?z9hi ?z9hn) ?z9cx ?z9F ?z9N ?z9hp ?z9hdp ?z9hun ?_)); (case z9cx => k_dflt k_asm); (case z9F => k_dflt k_asm); (case z9N => k_dflt k_asm); (case z9hp => k_dflt (exact ⟨⟨by (first | exact got_base (by k_asm) (by assumption) | exact got_news (by k_asm) (by k_mem)), by (first | exact got_base (by k_asm) (by assumption) | exact got_news (by k_asm) (by k_mem))⟩, by (first | exact stays_list (Fr.keep (by k_asm)) (by assumption) | exact ⟨_, got_news (by k_asm) (by k_mem), rfl, _, rfl⟩)⟩)); (case z9hdp => ((try dsimp only [top]); omega)); (case z9hun => ((try dsimp only [top]); omega)); (case z9hi => with_reducible assumption); (case z9hn => with_reducible assumption); k_whole; (k_dflt (rintro z9v' z9new' z9h' z9tk' z9F' z9N' z9hnew' z9st' z9hpost'; refine (let z9G' : Prop := _; (?_ : z9G')); obtain ⟨z9y', z9dy', z9ly', z9h2', z9k2', z9n', z9e', z9m1', z9m2', z9m3', z9q1', z9q2', z9q3'⟩ := z9hpost')); subst z9e'; (replace z9N' := (z9hnew' _ z9m3').news z9N'); (have z9hne' := (z9hnew' _ z9m3').ne); (try dsimp only [AllNe] at z9hne');(replace z9N' := (z9hnew' _ z9m2').news z9N'); (have z9hne' := (z9hnew' _ z9m2').ne); (try dsimp only [AllNe] at z9hne');(replace z9N' := (z9hnew' _ z9m1').news z9N'); (have z9hne' := (z9hnew' _ z9m1').ne); (try dsimp only [AllNe] at z9hne'); clear z9hnew' z9m1' z9m2' z9m3' z9st'; (try k_unmd); (try k_unfold); (try dsimp only); (try k_fold))))
  trivial


theorem use_at {w : World} {x dx l : Addr} {h1 : Int} {k1 : Tok} {vs : List Value} {ns : List Int} {i : Int} {ti : Tok} (hx : x ≠ dx) (hl : l ≠ dx) (hi : IntsAre vs ns) (h0 : 0 ≤ i) (h1i : i < ns.length) (h4 : ns.length ≤ 4) :
    Does w 167 [.ref x, .int i ti] 2 [(dx, dictOf [⟨h1, .str "row" k1, .ref l⟩] 1)] (fun h => h.get? x = some (instObj 184 dx) ∧ h.IsList l vs.toArray) (fun v news _ => ∃ t, v = .int (ns.getD i.toNat 0) t ∧ RepIs dx h1 k1 (ns.getD i.toNat 0 :: (ns.take i.toNat ++ ns.drop (i.toNat + 1))) news) := use_does w x dx l h1 k1 vs ns i ti hx hl hi h0 h1i h4
theorem put_at {w : World} {x dx l : Addr} {h1 : Int} {k1 : Tok} {vs : List Value} {ns : List Int} {d : Int} {td : Tok} (hx : x ≠ dx) (hl : l ≠ dx) (hi : IntsAre vs ns) (h4 : ns.length ≤ 4) :
    Does w 174 [.ref x, .int d td] 2 [(dx, dictOf [⟨h1, .str "row" k1, .ref l⟩] 1)] (fun h => h.get? x = some (instObj 184 dx) ∧ h.IsList l vs.toArray) (fun v news _ => v = .none ∧ RepIs dx h1 k1 (d :: ns.take 3) news) := put_does w x dx l h1 k1 vs ns d td hx hl hi h4

theorem word76 : True := by
  (k_with "w:call ref" => row_timed "z" ((k_here; (with_reducible show wpAny _ _ (call (Value.ref 167) _) _ _ _); (k_dflt (refine' does_use1 (use_at ?z9hx ?z9hl ?z9hi ?z9h0 ?z9h1i ?z9h4) ?z9cx ?z9F ?z9N ?z9U (And.intro ?z9hp1 ?z9hp2) ?z9hdp ?z9hun ?_)); (case z9cx => k_dflt k_asm); (case z9F => k_dflt k_asm); (case z9N => k_dflt k_asm); (case z9hp1 => k_dflt ((first | exact got_base (by k_asm) (by assumption) | exact got_news (by k_asm) (by k_mem)))); (case z9U => k_dflt k_updF); (case z9hp2 => k_dflt ((first | exact ⟨_, got_news (by k_asm) (by k_mem), rfl, _, rfl⟩ | exact stays_list (Fr.keep (by k_asm)) (by assumption)))); (case z9hdp => ((try dsimp only [top]); omega)); (case z9hun => ((try dsimp only [top]); omega)); (case z9hx => k_ne); (case z9hl => k_ne); (case z9hi => l_ints); (case z9h0 => omega); (case z9h1i => omega); (case z9h4 => omega); k_whole; (k_dflt (rintro z9v' z9new' z9h' z9tk' z9F' z9N' z9hnew' z9st' z9hpost'; refine (let z9G' : Prop := _; (?_ : z9G')); obtain ⟨z9t', z9e', z9ho'⟩ := z9hpost')); subst z9e'; (k_dflt obtain ⟨z9l', z9vs', z9n', z9hm', z9hm2', z9hi', z9hne'⟩ := z9ho'); (replace z9N' := (z9hnew' _ z9hm2' z9hne').news (z9N' _ z9hm')); (have z9hne2' := (z9hnew' _ z9hm2' z9hne').ne); (try dsimp only [AllNe] at z9hne2'); (try dsimp only at z9N'); clear z9hnew' z9hm' z9hm2' z9st'; (try k_unmd); (try k_unfold); (try dsimp only); (try k_fold))))
  trivial

theorem word77 : True := by
  (k_with "w:call ref" => row_timed "z" ((k_here; (with_reducible show wpAny _ _ (call (Value.ref 174) _) _ _ _); (k_dflt (refine' does_use1 (put_at ?z9hx ?z9hl ?z9hi ?z9h4) ?z9cx ?z9F ?z9N ?z9U (And.intro ?z9hp1 ?z9hp2) ?z9hdp ?z9hun ?_)); (case z9cx => k_dflt k_asm); (case z9F => k_dflt k_asm); (case z9N => k_dflt k_asm); (case z9hp1 => k_dflt ((first | exact got_base (by k_asm) (by assumption) | exact got_news (by k_asm) (by k_mem)))); (case z9U => k_dflt k_updF); (case z9hp2 => k_dflt ((first | exact ⟨_, got_news (by k_asm) (by k_mem), rfl, _, rfl⟩ | exact stays_list (Fr.keep (by k_asm)) (by assumption)))); (case z9hdp => ((try dsimp only [top]); omega)); (case z9hun => ((try dsimp only [top]); omega)); (case z9hx => k_ne); (case z9hl => k_ne); (case z9hi => l_ints); (case z9h4 => omega); k_whole; (k_dflt (rintro z9v' z9new' z9h' z9tk' z9F' z9N' z9hnew' z9st' z9hpost'; refine (let z9G' : Prop := _; (?_ : z9G')); obtain ⟨z9e', z9ho'⟩ := z9hpost')); subst z9e'; (k_dflt obtain ⟨z9l', z9vs', z9n', z9hm', z9hm2', z9hi', z9hne'⟩ := z9ho'); (replace z9N' := (z9hnew' _ z9hm2' z9hne').news (z9N' _ z9hm')); (have z9hne2' := (z9hnew' _ z9hm2' z9hne').ne); (try dsimp only [AllNe] at z9hne2'); (try dsimp only at z9N'); clear z9hnew' z9hm' z9hm2' z9st'; (try k_unmd); (try k_unfold); (try dsimp only); (try k_fold))))
  trivial

inductive Stp where
  | lit : Stp
  | rep (i n : Int) : Stp
  | mat (d n : Int) : Stp
noncomputable def StpVals (vals : List Value) : Stp → Prop
  | .lit => ∃ t, vals = [Value.str (Str.ofString "lit") t]
  | .rep i n => ∃ t1 t2 t3, vals = [Value.str (Str.ofString "rep") t1, .int i t2, .int n t3]
  | .mat d n => ∃ t1 t2 t3, vals = [Value.str (Str.ofString "match") t1, .int d t2, .int n t3]
noncomputable def StpObj (o : Obj) (s : Stp) : Prop := o.cls = .type "tuple" ∧ ∃ vals n, o.data = .seq (List.toArray vals) n ∧ StpVals vals s
noncomputable def StpAt (h : Heap) (v : Value) (s : Stp) : Prop := ∃ a vals, v = .ref a ∧ IsTup h a (List.toArray vals) ∧ StpVals vals s
/-- a step that lies in the base or in the ledger -/
noncomputable def StpIn (g : Heap) (nx : List (Addr × Obj)) (v : Value) (s : Stp) : Prop := ∃ a vals, v = .ref a ∧ StpVals vals s ∧ (IsTup g a (List.toArray vals) ∨ ∃ n, (a, ({ cls := .type "tuple", data := .seq (List.toArray vals) n } : Obj)) ∈ nx)
theorem StpIn.more {g : Heap} {nx nx' : List (Addr × Obj)} {v : Value} {s : Stp} (hs : ∀ p ∈ nx, p ∈ nx') (x : StpIn g nx v s) : StpIn g nx' v s := let ⟨a, vals, e, h, k⟩ := x; ⟨a, vals, e, h, k.imp id fun ⟨n, h⟩ => ⟨n, hs _ h⟩⟩
theorem StpIn.at {g h : Heap} {L : Addr} {m : Str → Option Value} {nx news : List (Addr × Obj)} {v : Value} {s : Stp} (F : Fr g L h m) (N : News g L h news) (hs : ∀ p ∈ nx, p ∈ news) (x : StpIn g nx v s) : StpAt h v s := by
  obtain ⟨a, vals, rfl, hv, k | ⟨n, k⟩⟩ := x
  · exact ⟨a, vals, rfl, k.keeps F.keep, hv⟩
  · exact ⟨a, vals, rfl, ⟨_, (N _ (hs _ k)).1, rfl, n, rfl⟩, hv⟩
theorem StpAt.keeps {h h' : Heap} (k : h.StaysIn h') {v : Value} {s : Stp} (x : StpAt h v s) : StpAt h' v s := let ⟨a, vals, e, i, j⟩ := x; ⟨a, vals, e, i.keeps k, j⟩
theorem stp_new {g : Heap} {nx : List (Addr × Obj)} {a : Addr} {vals : List Value} {n : Nat} {s : Stp} (h : (a, ({ cls := .type "tuple", data := .seq (List.toArray vals) n } : Obj)) ∈ nx) (hv : StpVals vals s) : StpIn g nx (.ref a) s := ⟨a, vals, rfl, hv, .inr ⟨n, h⟩⟩
theorem stp_base {g : Heap} {nx : List (Addr × Obj)} {a : Addr} {vals : List Value} {s : Stp} (h : IsTup g a (List.toArray vals)) (hv : StpVals vals s) : StpIn g nx (.ref a) s := ⟨a, vals, rfl, hv, .inl h⟩
noncomputable def repU (i : Int) (X : List Int) : List Int := X.getD i.toNat 0 :: (X.take i.toNat ++ X.drop (i.toNat + 1))
noncomputable def repP (d : Int) (X : List Int) : List Int := d :: X.take 3
noncomputable def spStep (st : List Int × List Stp) (p : Int × Int) : List Int × List Stp :=
  if p.1 = 0 then (st.1, st.2 ++ [.lit]) else if p.2 ∈ st.1 then (repU (st.1.idxOf p.2 : Nat) st.1, st.2 ++ [.rep (st.1.idxOf p.2 : Nat) p.1]) else (repP p.2 st.1, st.2 ++ [.mat p.2 p.1])
noncomputable def spS (ns : List Int) (plain : List (Int × Int)) (i : Nat) : List Int × List Stp := (plain.take i).foldl spStep (ns, [])
theorem spS_succ {ns : List Int} {plain : List (Int × Int)} {i : Nat} (h : i < plain.length) : spS ns plain (i + 1) = spStep (spS ns plain i) plain[i] := by
  unfold spS
  rw [List.take_add_one, List.getElem?_eq_getElem h, List.foldl_append]; rfl
theorem spStep_len {st : List Int × List Stp} {p : Int × Int} (h : st.1.length = 4) : (spStep st p).1.length = 4 := by
  unfold spStep
  split
  · exact h
  · split
    · rename_i hm
      have := List.idxOf_lt_length_iff.mpr hm
      unfold repU
      simp only [List.length_cons, List.length_append, List.length_take, List.length_drop, Int.toNat_natCast]; omega
    · unfold repP; simp only [List.length_cons, List.length_take]; omega
theorem spS_len {ns : List Int} (hn : ns.length = 4) (plain : List (Int × Int)) : ∀ i, i ≤ plain.length → (spS ns plain i).1.length = 4
  | 0, _ => hn
  | i + 1, hi => by rw [spS_succ (by omega)]; exact spStep_len (spS_len hn plain i (by omega))
theorem sp_lit {st : List Int × List Stp} {p : Int × Int} (h : p.1 = 0) : spStep st p = (st.1, st.2 ++ [.lit]) := if_pos h
theorem sp_rep {st : List Int × List Stp} {p : Int × Int} (h : ¬ p.1 = 0) (hm : p.2 ∈ st.1) : spStep st p = (repU (st.1.idxOf p.2 : Nat) st.1, st.2 ++ [.rep (st.1.idxOf p.2 : Nat) p.1]) := by unfold spStep; rw [if_neg h, if_pos hm]
theorem sp_mat {st : List Int × List Stp} {p : Int × Int} (h : ¬ p.1 = 0) (hm : p.2 ∉ st.1) : spStep st p = (repP p.2 st.1, st.2 ++ [.mat p.2 p.1]) := by unfold spStep; rw [if_neg h, if_neg hm]

noncomputable def spJ (ox od fl : Addr) (h2 : Int) (k2 : Tok) (ns : List Int) (plain : List (Int × Int)) (g : Heap) (i : Nat) (m : Str → Option Value) (nx : List (Addr × Obj)) : Prop :=
  ∃ ol ovs on fvs fn tnx, m (Str.ofString "own") = some (.ref ox) ∧ m (Str.ofString "found") = some (.ref fl) ∧ nx = (fl, listOf (List.toArray fvs) fn) :: (od, dictOf [⟨h2, .str (Str.ofString "row") k2, .ref ol⟩] 1) :: (ol, listOf (List.toArray ovs) on) :: (ox, instObj 184 od) :: tnx ∧
    Far ol [fl, od, ox] ∧ OwnOff tnx [fl, od, ol, ox] ∧ IntsAre ovs (spS ns plain i).1 ∧ Are (StpIn g tnx) fvs (spS ns plain i).2 ∧ fvs.length ≤ i
section
variable {prog : Program} {w : World} {A : Around} {E : Value → Shared → Prop} {s : Shared} {env : Env} {h₀ : Heap}
theorem loop_one {target : Expr} {body : List Stmt} {Q : Flow → Shared → Prop} {Pv : Nat → Heap → Value → Prop} {l : Addr} {o : Obj} {it : Value} {s₂ : Shared} {m : Str → Option Value} {nx₀ : List (Addr × Obj)}
    (Jout : (Str → Option Value) → List (Addr × Obj) → Prop) (S : SrcAt prog w A target 1 Pv [l] s it s₂) (F : Fr h₀ env.locals s.heap m) (N : News h₀ env.locals s.heap nx₀) (hl : (l, o) ∈ nx₀)
    (turn : ∀ v h tk own2, Pv 0 h v → OwnOff own2 (nx₀.map (·.1)) → Fr h₀ env.locals h m → News h₀ env.locals h (nx₀ ++ own2) →
      wpAny (model prog w) A (assign target env v) (fun _ s₃ => wpAny (model prog w) A (execs body env) (SrcTurn h₀ env.locals (fun m nx => (l, o) ∈ nx ∧ Jout m nx) own2 { s with heap := h, toks := tk }) (fun _ _ => False) s₃) (fun _ _ => False) { s with heap := h, toks := tk })
    (done : ∀ h' tk m' nx, Jout m' nx → Fr h₀ env.locals h' m' → News h₀ env.locals h' nx → Q .next { s with heap := h', toks := tk }) : LoopS prog w A h₀ env target body Q it s₂ :=
  loop_of (fun i m' nx => (l, o) ∈ nx ∧ (i = 0 → m' = m ∧ nx = nx₀) ∧ (i = 1 → Jout m' nx)) S F N ⟨hl, fun _ => ⟨rfl, rfl⟩, fun h => nomatch h⟩ (fun b hb => .inr ⟨o, fun i m' nx h => by rw [List.mem_singleton.mp hb]; exact h.1⟩)
    (fun i v m₁ nx h tk own hi hP hoff hJ F₁ N₁ => by
      obtain rfl : i = 0 := by omega
      obtain ⟨_, h0, _⟩ := hJ
      obtain ⟨rfl, rfl⟩ := h0 rfl
      refine wpAny_mono (turn v h tk own hP hoff F₁ N₁) (fun _ s₃ h₃ => wpAny_mono h₃ (fun f s₄ h₄ => ?_) fun _ _ x => x) fun _ _ x => x
      obtain ⟨hf, h₅, tk₅, m₅, news₅, nx₅, rfl, F₅, N₅, hn₅, ho₅, ha₅, hl₅, hJ₅⟩ := h₄
      exact ⟨hf, h₅, tk₅, m₅, news₅, nx₅, rfl, F₅, N₅, hn₅, ho₅, ha₅, hl₅, (fun e => by simp at e), fun _ => hJ₅⟩)
    fun h' tk m' nx hJ F' N' => done h' tk m' nx (hJ.2.2 rfl) F' N'
end

theorem off_nil (l : List Addr) : OwnOff [] l := by intro p hp; cases hp
theorem sp_norm {P : Prop} {h₀ h : Heap} {L ox od ol fl : Addr} {m : Str → Option Value} {led : List (Addr × Obj)} {h2 : Int} {k2 : Tok} {on fn : Nat} {ovs : List Value} {ns : List Int} (plain : List (Int × Int)) (F : Fr h₀ L h m) (N : News h₀ L h led)
    (e1 : m (Str.ofString "own") = some (.ref ox)) (e2 : m (Str.ofString "found") = some (.ref fl)) (m1 : (fl, listOf #[] fn) ∈ led) (m2 : (od, dictOf [⟨h2, .str (Str.ofString "row") k2, .ref ol⟩] 1) ∈ led) (m3 : (ol, listOf (List.toArray ovs) on) ∈ led) (m4 : (ox, instObj 184 od) ∈ led)
    (hne : @Ne Nat fl od ∧ @Ne Nat fl ox ∧ @Ne Nat od ox ∧ @Ne Nat ol fl ∧ @Ne Nat ol od ∧ @Ne Nat ol ox) (hi : IntsAre ovs ns)
    (k : ∀ (ox od fl : Addr) (h2 : Int) (k2 : Tok) (m : Str → Option Value) (nx : List (Addr × Obj)), Far fl [od, ox] → Far od [ox] → Fr h₀ L h m → News h₀ L h nx → spJ ox od fl h2 k2 ns plain h₀ 0 m nx → P) : P := by
  obtain ⟨n1, n2, n3, n4, n5, n6⟩ := hne
  refine k ox od fl h2 k2 m [(fl, listOf #[] fn), (od, dictOf [⟨h2, .str (Str.ofString "row") k2, .ref ol⟩] 1), (ol, listOf (List.toArray ovs) on), (ox, instObj 184 od)] (List.forall_mem_cons.mpr ⟨n1, List.forall_mem_cons.mpr ⟨n2, List.forall_mem_nil _⟩⟩) (List.forall_mem_cons.mpr ⟨n3, List.forall_mem_nil _⟩) F
    (List.forall_mem_cons.mpr ⟨N _ m1, List.forall_mem_cons.mpr ⟨N _ m2, List.forall_mem_cons.mpr ⟨N _ m3, List.forall_mem_cons.mpr ⟨N _ m4, List.forall_mem_nil _⟩⟩⟩⟩)
    ⟨ol, ovs, on, [], fn, [], e1, e2, rfl, List.forall_mem_cons.mpr ⟨n4, List.forall_mem_cons.mpr ⟨n5, List.forall_mem_cons.mpr ⟨n6, List.forall_mem_nil _⟩⟩⟩, off_nil _, hi, Are.nil, Nat.le_refl _⟩

theorem sub_tup_list : isSubtype (.type "tuple") (.type "list") = pure false := by rw [isSubtype_type]; kernel_rfl
theorem type_lst : typeOf (.type "list") = pure (.type "type") := by kernel_rfl
theorem isi_pairK {prog : Program} {w : World} {A : Around} {E : Value → Shared → Prop} {s : Shared} {a tp : Addr} {items : Array Value} {Q : Value → Shared → Prop} (hx : IsTup s.heap a items) (ht : s.heap.get? tp = some { cls := .type "tuple", data := .seq #[Value.type "tuple", .type "list"] })
    (h : ∀ tk, Q (.bool true) { s with toks := tk }) : wpAny (model prog w) A (call (.builtin "isinstance") [.ref a, .ref tp]) Q E s :=
  call_isinstance (isinstance_tuple (Tx := "tuple") (cs := [Value.type "tuple", .type "list"]) (vs := [true, false]) ⟨Answers.of_true type_tup sub_tup_self, Answers.of_false_tuple (by decide +kernel) type_lst sub_tup_list, trivial⟩) ⟨IsTup.typeIs hx, ht, fun tk => h tk⟩

noncomputable def spK (ox od fl : Addr) (h2 : Int) (k2 : Tok) (ns : List Int) (plain : List (Int × Int)) (g : Heap) (i : Nat) (own : List (Addr × Obj)) (m : Str → Option Value) (nx : List (Addr × Obj)) : Prop :=
  ∃ ol ovs on fvs fn tnx, m (Str.ofString "own") = some (.ref ox) ∧ m (Str.ofString "found") = some (.ref fl) ∧ ((fl, listOf (List.toArray fvs) fn) ∈ nx ∧ (od, dictOf [⟨h2, .str (Str.ofString "row") k2, .ref ol⟩] 1) ∈ nx ∧ (ol, listOf (List.toArray ovs) on) ∈ nx ∧ (ox, instObj 184 od) ∈ nx ∧ (∀ p ∈ tnx, p ∈ nx) ∧ ∀ p ∈ own, p ∈ nx) ∧
    Far ol [fl, od, ox] ∧ OwnOff tnx [fl, od, ol, ox] ∧ OwnOff own ([fl, od, ol, ox] ++ tnx.map (·.1)) ∧ IntsAre ovs (spS ns plain i).1 ∧ Are (StpIn g tnx) fvs (spS ns plain i).2 ∧ fvs.length ≤ i
theorem sp_out {ox od fl : Addr} {h2 : Int} {k2 : Tok} {ns : List Int} {plain : List (Int × Int)} {g h' : Heap} {L : Addr} {i : Nat} {own news' : List (Addr × Obj)} {m' : Str → Option Value} {s₁ : Shared} {tk : Nat} {flow : Flow} (hf : flow = .next ∨ flow = .cont) (F : Fr g L h' m') (N : News g L h' news')
    (h : spK ox od fl h2 k2 ns plain g i own m' news') : SrcTurn g L (spJ ox od fl h2 k2 ns plain g i) own s₁ flow { s₁ with heap := h', toks := tk } := by
  obtain ⟨ol, ovs, on, fvs, fn, tnx, e1, e2, ⟨m1, m2, m3, m4, m5, m6⟩, y3, ht, ho, hov, hfv, hfl⟩ := h
  refine ⟨hf, InvEndG.intro (nx := (fl, listOf (List.toArray fvs) fn) :: (od, dictOf [⟨h2, .str (Str.ofString "row") k2, .ref ol⟩] 1) :: (ol, listOf (List.toArray ovs) on) :: (ox, instObj 184 od) :: tnx) F N ⟨ol, ovs, on, fvs, fn, tnx, e1, e2, rfl, y3, ht, hov, hfv, hfl⟩ ho ?_ m6⟩
  intro p hp
  simp only [List.mem_cons] at hp
  rcases hp with rfl | rfl | rfl | rfl | hp
  · exact m1
  · exact m2
  · exact m3
  · exact m4
  · exact m5 p hp
theorem off_of {T : Addr} {l : List (Addr × Obj)} {a : List Addr} (h : ∀ p ∈ l, p.1 ≠ T) (k : OwnOff l a) : OwnOff l (T :: a) := by
  intro p hp b hb
  rcases List.mem_cons.mp hb with rfl | hb
  · exact h p hp
  · exact k p hp b hb

theorem src_one {prog : Program} {w : World} {A : Around} {E : Value → Shared → Prop} {s : Shared} {h₀ : Heap} {L l : Addr} {led : List (Addr × Obj)} {v0 : Value} {n : Nat} {target : Expr} {Q : Value → Shared → Prop} (hh : A.handled = none) (N : News h₀ L s.heap led) (hm : (l, listOf #[v0] n) ∈ led)
    (k : ∀ it s₂, SrcAt prog w A target 1 (fun _ _ v => v = v0) [l] s it s₂ → Q it s₂) : wpAny (model prog w) A (pyIter (.ref l)) Q E s :=
  src_list (items := #[v0]) hh ⟨_, (N _ hm).1, rfl, n, rfl⟩ fun it s₂ S => k it s₂ (by
    obtain ⟨I, fp, wr, St, h₂, e1, e2, W, r⟩ := S
    refine ⟨I, fp, wr, St, h₂, e1, e2, ⟨W.sub, W.frame, W.live, fun i s Q E hi st hQ => W.item i s Q E hi st fun v h' tk hP => hQ v h' tk ?_, W.done, W.self⟩, r⟩
    obtain rfl : i = 0 := by simp at hi; exact hi
    simpa using hP.symm)

theorem sp_in {g h' : Heap} {L ox od fl ol ol' lc Dt T : Addr} {m' : Str → Option Value} {s₁ : Shared} {tk : Nat} {h2 : Int} {k2 : Tok} {ns st' : List Int} {plain : List (Int × Int)} {i n on' fn' : Nat} {own own2 own3 own4 tnx : List (Addr × Obj)} {oc ot oo : Obj} {vals ovs' fvs : List Value} {sts : List Stp} {sp : Stp}
    (F : Fr g L h' m') (N : News g L h' ((T, { cls := .type "tuple", data := .seq (List.toArray vals) n }) :: (ol', listOf (List.toArray ovs') on') :: (lc, oc) :: (Dt, ot) :: (fl, listOf (List.toArray (fvs ++ [Value.ref T])) fn') :: (od, dictOf [⟨h2, .str (Str.ofString "row") k2, .ref ol'⟩] 1) :: (ol, oo) :: (ox, instObj 184 od) :: own4))
    (e1 : m' (Str.ofString "own") = some (.ref ox)) (e2 : m' (Str.ofString "found") = some (.ref fl)) (h4 : own4 = own3 ++ own2) (h3 : own3 = tnx ++ own)
    (hoff : OwnOff own (fl :: od :: ol :: ox :: tnx.map (·.1))) (ht : OwnOff tnx [fl, od, ol, ox]) (hoff2 : OwnOff own2 (lc :: Dt :: fl :: od :: ol :: ox :: own3.map (·.1)))
    (q1 : @Ne Nat lc ol' ∧ @Ne Nat Dt ol' ∧ @Ne Nat fl ol' ∧ @Ne Nat od ol' ∧ @Ne Nat ol ol' ∧ @Ne Nat ox ol' ∧ AllNe ol' own4) (q2 : @LT.lt Nat _ ol' T ∧ @LT.lt Nat _ lc T ∧ @LT.lt Nat _ Dt T ∧ @LT.lt Nat _ fl T ∧ @LT.lt Nat _ od T ∧ @LT.lt Nat _ ol T ∧ @LT.lt Nat _ ox T ∧ AllLt T own4)
    (hs : spS ns plain (i + 1) = (st', sts ++ [sp])) (hov : IntsAre ovs' st') (hfv : Are (StpIn g tnx) fvs sts) (hsp : StpVals vals sp) (hl : fvs.length ≤ i) :
    SrcTurn g L (fun m nx => (lc, oc) ∈ nx ∧ spK ox od fl h2 k2 ns plain g (i + 1) own m nx) own2 s₁ .next { s₁ with heap := h', toks := tk } := by
  obtain ⟨n1, n2, n3, n4, n5, n6, hA⟩ := q1
  obtain ⟨l1, l2, l3, l4, l5, l6, l7, hB⟩ := q2
  have aL := allNe_all hA
  have aT := allLt_all hB
  subst h4 h3
  refine src_next (nx := (lc, oc) :: (fl, listOf (List.toArray (fvs ++ [Value.ref T])) fn') :: (od, dictOf [⟨h2, .str (Str.ofString "row") k2, .ref ol'⟩] 1) :: (ol', listOf (List.toArray ovs') on') :: (ox, instObj 184 od) :: (T, { cls := .type "tuple", data := .seq (List.toArray vals) n }) :: (tnx ++ own)) F N
    ⟨.head _, ol', ovs', on', fvs ++ [Value.ref T], fn', (T, { cls := .type "tuple", data := .seq (List.toArray vals) n }) :: tnx, e1, e2, ⟨by simp, by simp, by simp, by simp, ?_, ?_⟩, ?_, ?_, ?_, by rw [hs]; exact hov, by rw [hs]; exact (hfv.mono fun v s h => h.more fun p hp => .tail _ hp).snoc (stp_new (.head _) hsp), ?_⟩ ?_ ?_ ?_
  · intro p hp
    rcases List.mem_cons.mp hp with rfl | hp <;> simp [*]
  · intro p hp; simp [hp]
  · exact List.forall_mem_cons.mpr ⟨Ne.symm n3, List.forall_mem_cons.mpr ⟨Ne.symm n4, List.forall_mem_cons.mpr ⟨Ne.symm n6, List.forall_mem_nil _⟩⟩⟩
  · intro p hp b hb
    rcases List.mem_cons.mp hp with rfl | hp
    · simp only [List.mem_cons, List.not_mem_nil, or_false] at hb
      rcases hb with rfl | rfl | rfl | rfl
      · exact Nat.ne_of_gt l4
      · exact Nat.ne_of_gt l5
      · exact Nat.ne_of_gt l1
      · exact Nat.ne_of_gt l7
    · simp only [List.mem_cons, List.not_mem_nil, or_false] at hb
      rcases hb with rfl | rfl | rfl | rfl
      · exact ht p hp _ (by simp)
      · exact ht p hp _ (by simp)
      · exact aL p (by simp [hp])
      · exact ht p hp _ (by simp)
  · intro p hp b hb
    simp only [List.cons_append, List.nil_append, List.map_cons, List.mem_cons] at hb
    rcases hb with rfl | rfl | rfl | rfl | rfl | hb
    · exact hoff p hp _ (by simp)
    · exact hoff p hp _ (by simp)
    · exact aL p (by simp [hp])
    · exact hoff p hp _ (by simp)
    · exact Nat.ne_of_lt (aT p (by simp [hp]))
    · exact hoff p hp b (.tail _ (.tail _ (.tail _ (.tail _ hb))))
  · simp only [List.length_append, List.length_cons, List.length_nil]; omega
  · intro p hp b hb
    simp only [List.map_cons, List.mem_cons] at hb
    rcases hb with rfl | rfl | rfl | rfl | rfl | rfl | hb
    · exact hoff2 p hp _ (by simp)
    · exact hoff2 p hp _ (by simp)
    · exact hoff2 p hp _ (by simp)
    · exact aL p (by simp [hp])
    · exact hoff2 p hp _ (by simp)
    · exact Nat.ne_of_lt (aT p (by simp [hp]))
    · exact hoff2 p hp b (.tail _ (.tail _ (.tail _ (.tail _ (.tail _ (.tail _ hb))))))
  · k_extra "sub"
  · intro p hp
    simp [hp]

theorem word78 : True := by
  (k_with "w:call builtin:isinstance" => row_timed "z" ((k_here; (with_reducible show wpAny _ _ (call (Value.builtin "isinstance") [Value.ref _, Value.ref _]) _ _ _); (k_dflt (refine' isi_pairK ?z9x ?z9t ?_)); (case z9x => exact tup_base (by k_asm) (by assumption)); (case z9t => exact got_news (by k_asm) (by k_mem)); k_whole; intro z9tk')))
  trivial

set_option maxHeartbeats 8000000 in
theorem spl_does (w : World) (pl x dx l : Addr) (h1 : Int) (k1 : Tok) (vs : List Value) (ns : List Int) (plain : List (Int × Int)) (hi : IntsAre vs ns) (hn : ns.length = 4) (hpl : plain.length < 1000) (hq : ∀ p ∈ plain, p.1 = 0 ∨ (2 ≤ p.1 ∧ p.1 ≤ 273 ∧ 1 ≤ p.2)) :
    Does w 233 [.ref pl, .ref x] 16 [] (fun h => LstAt PairAt h pl plain ∧ (h.get? x = some (instObj 184 dx) ∧ h.get? dx = some (dictOf [⟨h1, .str "row" k1, .ref l⟩] 1)) ∧ h.IsList l vs.toArray) (fun v news h => ∃ f, v = .ref f ∧ LstAt StpAt h f (spS ns plain plain.length).2) := by
  refine' does_of [(Str.ofString "plain", .ref pl), (Str.ofString "reps", .ref x)] ?ho ?hcd ?hbind ?hloc ?c2 ?c3 ?c4 ?c5 ?cP ?body
  case ho => k_is
  case hcd => k_is
  case hbind => exact fun _ X => binds_K X rfl (by k_is) rfl rfl rfl
  case hloc => exact locs rfl
  case c2 => exact rfl
  case c3 => exact rfl
  case c4 => exact rfl
  case c5 => decide
  case cP => exact fun _ _ g h => ⟨h.1.keeps (fun _ _ _ _ k x => x.keeps k) (stays_of_gsub g), ⟨g _ _ h.2.1.1 (by simp), g _ _ h.2.1.2 (by simp)⟩, is_list_but g h.2.2 (by simp)⟩
  case body =>
    intro mg mb p loose mean base env outer dp un gd s g' L' h' tk0 cx hdp hun hp B' X' T' G' F' N'
    obtain ⟨⟨pvs, hpl1, hpla⟩, ⟨hpx, hpd⟩, hpll⟩ := hp
    have hlen := hpla.1
    try k_unmd
    k_fold
    k_steps
    refine stop_on ?_
    refine sp_norm (ns := ns) plain (by assumption) (by assumption) rfl rfl (by k_mem) (by k_mem) (by k_mem) (by k_mem) ⟨neN (by omega), neN (by omega), neN (by omega), neN (by omega), neN (by omega), neN (by omega)⟩ hi (fun ox od fl h2 k2 m nx y1 y2 F₃ N₃ J₃ => ?_)
    refine' src_list (items := pvs.toArray) rfl ?lst (fun it s₂ S => loop_of (spJ ox od fl h2 k2 ns plain g') S F₃ N₃ J₃ ?hrd ?turn ?done)
    case lst => exact stays_list (Fr.keep (by k_asm)) (by assumption)
    case hrd => exact List.forall_mem_cons.mpr ⟨.inl (by obtain ⟨o, e, _⟩ := hpl1; exact ⟨o, e⟩), List.forall_mem_nil _⟩
    case turn =>
      intro i v m₁ nx h tk own hi' hP hoff hJ F₁ N₁
      refine (let G : Prop := _; (?_ : G))
      refine ex6 hJ ?_
      intro ol ovs on fvs fn tnx z9p
      clear hJ
      refine and8 z9p ?_
      clear z9p
      intro e1 e2 z9e2 y3 ht hov hfv hfl
      subst z9e2
      simp only [List.getElem?_toArray] at hP
      have hil : i < plain.length := by have := (List.getElem?_eq_some_iff.mp hP).1; omega
      obtain ⟨v2, hv2, a2, u1, u2, e6, ht2⟩ := hpla.at (List.getElem?_eq_getElem hil)
      have e8 : v = .ref a2 := by rw [hv2] at hP; cases hP; exact e6
      subst e8
      have hst := spS_succ (ns := ns) hil
      have hln := spS_len hn plain i (by omega)
      have hqi := hq _ (List.getElem_mem hil)
      k_unmd
      k_unfold
      generalize hS : spS ns plain i = S0 at *
      obtain ⟨st, sts⟩ := S0
      generalize hp1 : plain[i] = pr at *
      obtain ⟨len, dist⟩ := pr
      dsimp only at hst hln hqi hov hfv ht2
      obtain ⟨own3, h3⟩ : ∃ o, o = tnx ++ own := ⟨_, rfl⟩
      simp only [List.map_cons, List.cons_append] at hoff; (try dsimp only [List.map_cons, List.cons_append] at N₁)
      rw [← h3] at N₁
      have O₃ : OwnOff own3 [fl, od, ol, ox] := by
        subst h3
        intro p hp b hb
        rcases List.mem_append.mp hp with hp | hp
        · exact ht p hp b hb
        · exact hoff p hp b (by simp only [List.mem_cons, List.not_mem_nil, or_false] at hb ⊢; rcases hb with rfl | rfl | rfl | rfl <;> simp)
      have F₂ := fr_lit [(Str.ofString "own", .ref ox), (Str.ofString "found", .ref fl)] (List.forall_mem_cons.mpr ⟨e1, List.forall_mem_cons.mpr ⟨e2, List.forall_mem_nil _⟩⟩) F₁
      have hvl := hov.length
      have hfL : fvs.length < 1000 := by omega
      clear F₁ hp1 hS hi hpll hpx hpd
      dsimp only [kstB] at F₂
      try k_unmd
      k_fold
      k_steps
      · (try dsimp only)
        have hz : len = 0 := by assumption
        refine sp_out (.inr rfl) (by assumption) (by assumption) ⟨ol, ovs, on, _, _, tnx, rfl, rfl, ⟨by k_mem, by k_mem, by k_mem, by k_mem, by intro p hp; rw [h3]; simp [hp], by intro p hp; rw [h3]; simp [hp]⟩, y3, ht, hoff, ?_, ?_, ?_⟩
        · rw [hst, sp_lit hz]; exact hov
        · rw [hst, sp_lit hz]; exact hfv.snoc (stp_base (tupK X' (by k_is)) ⟨_, rfl⟩)
        · simp only [List.length_append, List.length_cons, List.length_nil]; omega
      · refine stop_on ?_
        have hnz : len ≠ 0 := by assumption
        have hq2 : 2 ≤ len ∧ len ≤ 273 ∧ 1 ≤ dist := by rcases hqi with h | h; exact absurd h hnz; exact h
        obtain ⟨hq3, hq4, hq5⟩ := hq2
        clear hqi
        refine src_one rfl (by assumption) (by k_mem) (fun it s₂ S2 => loop_one (spK ox od fl h2 k2 ns plain g' (i + 1) own) S2 (by assumption) (by assumption) (by k_mem) ?turn2 ?done2)
        case turn2 =>
          rintro v h tk own2 rfl hoff2 F₄ N₄
          obtain ⟨own4, h4⟩ : ∃ o, o = own3 ++ own2 := ⟨_, rfl⟩
          simp only [List.cons_append, List.map_cons] at hoff2; (try dsimp only [List.cons_append, List.map_cons] at N₄)
          rw [← h4] at N₄
          have O₄ : OwnOff own4 [fl, od, ol, ox] := by
            subst h4
            intro p hp b hb
            rcases List.mem_append.mp hp with hp | hp
            · exact O₃ p hp b hb
            · exact hoff2 p hp b (by simp only [List.mem_cons, List.not_mem_nil, or_false] at hb ⊢; rcases hb with rfl | rfl | rfl | rfl <;> simp)
          by_cases hm : dist ∈ st
          · have hany : (st.any fun y => y == dist) = true := any_mem.mpr hm
            have hix := List.idxOf_lt_length_iff.mpr hm
            try k_unmd
            k_fold
            k_steps
            (try dsimp only)
            refine sp_in (by assumption) (by assumption) rfl rfl h4 h3 hoff ht hoff2 (by assumption) (by assumption) (hst.trans (sp_rep hnz hm)) (by assumption) hfv ?_ hfl
            exact ⟨_, _, _, rfl⟩
          · have hany : (st.any fun y => y == dist) = false := any_not.mpr hm
            try k_unmd
            k_fold
            k_steps
            (try dsimp only)
            refine sp_in (by assumption) (by assumption) rfl rfl h4 h3 hoff ht hoff2 (by assumption) (by assumption) (hst.trans (sp_mat hnz hm)) (by assumption) hfv ?_ hfl
            exact ⟨_, _, _, rfl⟩
        case done2 =>
          intro h' tk m' nx hJ F₄ N₄
          refine (let G : Prop := _; (?_ : G))
          k_unmd
          k_unfold
          k_steps
          (try dsimp only)
          exact sp_out (.inl rfl) F₄ N₄ hJ
    case done =>
      intro h' tk m' nx hJ F₁ N₁
      refine (let G : Prop := _; (?_ : G))
      refine ex6 hJ ?_
      intro ol ovs on fvs fn tnx z9p
      clear hJ
      refine and8 z9p ?_
      clear z9p
      intro e1 e2 z9e2 y3 ht hov hfv hfl
      subst z9e2
      have hsz : pvs.toArray.size = plain.length := by simp only [List.size_toArray]; omega
      rw [hsz] at hfv
      have F₂ := fr_lit [(Str.ofString "own", .ref ox), (Str.ofString "found", .ref fl)] (List.forall_mem_cons.mpr ⟨e1, List.forall_mem_cons.mpr ⟨e2, List.forall_mem_nil _⟩⟩) F₁
      clear F₁
      dsimp only [kstB] at F₂
      k_unmd
      k_unfold
      k_steps
      (try dsimp only); (try k_unfold)
      refine leaf_ret F₂ N₁ ⟨fl, rfl, fvs, ⟨_, (N₁ _ (.head _)).1, rfl, _, rfl⟩, hfv.mono fun v s x => StpIn.at F₂ N₁ (fun p hp => by simp [hp]) x⟩

/-- a pair that lies in the ledger -/
noncomputable def PairIn (nx : List (Addr × Obj)) (v : Value) (p : Int × Int) : Prop := ∃ a t u n, v = .ref a ∧ (a, ({ cls := .type "tuple", data := .seq (List.toArray [Value.int p.1 t, Value.int p.2 u]) n } : Obj)) ∈ nx
theorem PairIn.more {nx nx' : List (Addr × Obj)} {v : Value} {p : Int × Int} (hs : ∀ p ∈ nx, p ∈ nx') (x : PairIn nx v p) : PairIn nx' v p := let ⟨a, t, u, n, e, h⟩ := x; ⟨a, t, u, n, e, hs _ h⟩
theorem PairIn.at {g h : Heap} {L : Addr} {nx news : List (Addr × Obj)} {v : Value} {p : Int × Int} (N : News g L h news) (hs : ∀ p ∈ nx, p ∈ news) (x : PairIn nx v p) : PairAt h v p :=
  let ⟨a, t, u, n, e, k⟩ := x; ⟨a, t, u, e, ⟨_, (N _ (hs _ k)).1, rfl, n, rfl⟩⟩
noncomputable abbrev tupO (vals : List Value) (n : Nat) : Obj := { cls := .type "tuple", data := .seq (List.toArray vals) n }
/-- a step that lies in the ledger -/
noncomputable def StpL (nx : List (Addr × Obj)) (v : Value) (s : Stp) : Prop := ∃ a vals n, v = .ref a ∧ (a, tupO vals n) ∈ nx ∧ StpVals vals s
theorem StpL.more {nx nx' : List (Addr × Obj)} {v : Value} {s : Stp} (hs : ∀ p ∈ nx, p ∈ nx') (x : StpL nx v s) : StpL nx' v s := let ⟨a, vals, n, e, h, k⟩ := x; ⟨a, vals, n, e, hs _ h, k⟩
theorem StpL.in_ {g : Heap} {nx : List (Addr × Obj)} {v : Value} {s : Stp} (x : StpL nx v s) : StpIn g nx v s := let ⟨a, vals, n, e, h, k⟩ := x; ⟨a, vals, e, k, .inr ⟨n, h⟩⟩
/-- a list of steps that lies in the ledger -/
noncomputable def PartIn (nx : List (Addr × Obj)) (v : Value) (ps : List Stp) : Prop := ∃ a vs n, v = .ref a ∧ (a, listOf (List.toArray vs) n) ∈ nx ∧ Are (StpL nx) vs ps
theorem PartIn.more {nx nx' : List (Addr × Obj)} {v : Value} {ps : List Stp} (hs : ∀ p ∈ nx, p ∈ nx') (x : PartIn nx v ps) : PartIn nx' v ps := let ⟨a, vs, n, e, h, k⟩ := x; ⟨a, vs, n, e, hs _ h, k.mono fun _ _ y => y.more hs⟩

noncomputable def rowsJC (cs : List (Addr × Obj)) (bs : List Int) (lates : List (List Int)) (room : Nat) (i : Nat) (ys : List Value) (nx : List (Addr × Obj)) : Prop := ∃ rnx, nx = cs ++ rnx ∧ OwnOff rnx (cs.map (·.1)) ∧ LstIn rnx ys ((lates.take i).map fun l => rowOf bs l room)
theorem rows_endC {cs : List (Addr × Obj)} {bs : List Int} {lates : List (List Int)} {room i : Nat} {ys : List Value} {rnx own : List (Addr × Obj)} {h₀ h' : Heap} {L C D l' : Addr} {oC oD : Obj} {m : Str → Option Value} {vs' : List Value} {n' tk : Nat} {row : List Int} {s₁ : Shared}
    (F : Fr h₀ L h' m) (N : News h₀ L h' ((l', listOf (List.toArray vs') n') :: (C, oC) :: (D, oD) :: (cs ++ (rnx ++ own)))) (hne : AllNe l' ((C, oC) :: (D, oD) :: (cs ++ (rnx ++ own))))
    (h1 : OwnOff own ((cs ++ rnx).map (·.1))) (h2 : OwnOff own [C, D]) (h3 : OwnOff (cs ++ rnx) [C, D]) (hO : OwnOff rnx (cs.map (·.1))) (hJ : LstIn rnx ys ((lates.take i).map fun l => rowOf bs l room)) (hl : lates[i]? = some row) (hi : IntsAre vs' (rowOf bs row room)) :
    EltEnd h₀ L m (rowsJC cs bs lates room (i + 1)) ys ((C, oC) :: (D, oD) :: own) s₁ (.ref l') { s₁ with heap := h', toks := tk } := by
  have hall := allNe_all hne
  refine elt_end (nx := cs ++ ((l', listOf (List.toArray vs') n') :: rnx)) F N ⟨_, rfl, ?_, ?_⟩ ?_ ?_ ?_
  · intro p hp b hb
    rcases List.mem_cons.mp hp with rfl | hp
    · obtain ⟨q, hq, rfl⟩ := List.mem_map.mp hb
      exact fun e => hall q (.tail _ (.tail _ (List.mem_append_left _ hq))) e.symm
    · exact hO p hp b hb
  · rw [List.take_add_one, hl]
    simp only [Option.toList_some, List.map_append, List.map_cons, List.map_nil]
    exact (hJ.more fun p hp => .tail _ hp).snoc ⟨l', vs', n', rfl, .head _, hi⟩
  · intro p hp b hb
    obtain ⟨q, hq, rfl⟩ := List.mem_map.mp hb
    have hq' : q = (l', listOf (List.toArray vs') n') ∨ q ∈ cs ++ rnx := by
      simp only [List.mem_append, List.mem_cons] at hq ⊢
      rcases hq with h | h | h <;> simp [h]
    rcases List.mem_cons.mp hp with rfl | hp
    · rcases hq' with rfl | hq'
      · exact hall _ (.head _)
      · exact fun e => h3 q hq' C (.head _) e.symm
    · rcases List.mem_cons.mp hp with rfl | hp
      · rcases hq' with rfl | hq'
        · exact hall _ (.tail _ (.head _))
        · exact fun e => h3 q hq' D (.tail _ (.head _)) e.symm
      · rcases hq' with rfl | hq'
        · exact hall _ (.tail _ (.tail _ (List.mem_append_right _ (List.mem_append_right _ hp))))
        · exact h1 p hp _ (List.mem_map_of_mem hq')
  · k_extra "sub"
  · k_extra "sub"

noncomputable def rowA (rows : List (List Int)) (i : Nat) : List Int := rows.getD i []
noncomputable def stpF (row : List Int) (i : Nat) (far : Int) : Stp := if far ∈ row then .rep (row.idxOf far : Nat) (2 + (i : Int)) else .mat far (2 + (i : Int))
noncomputable def partF (rows : List (List Int)) (run : List (Int × Int)) (i : Nat) : List Stp := List.replicate (run.getD i (0, 0)).1.toNat .lit ++ [stpF (rowA rows i) i (run.getD i (0, 0)).2]
noncomputable def plainR (run : List (Int × Int)) : Nat → List (Int × Int)
  | 0 => []
  | i + 1 => plainR run i ++ (List.replicate (run.getD i (0, 0)).1.toNat (0, 65) ++ [(2 + (i : Int), (run.getD i (0, 0)).2)])
noncomputable def stepsR (rows : List (List Int)) (run : List (Int × Int)) : Nat → List Stp
  | 0 => []
  | i + 1 => stepsR rows run i ++ partF rows run i
noncomputable def partsR (rows : List (List Int)) (run : List (Int × Int)) : Nat → List (List Stp)
  | 0 => []
  | i + 1 => partsR rows run i ++ [partF rows run i]
noncomputable def repJ (g : Heap) (D r ot pa : Addr) (c3 c2 c1 : Addr × Obj) (ys : List Value) (cnt : Nat) (rows : List (List Int)) (run : List (Int × Int)) (i : Nat) (m : Str → Option Value) (nx : List (Addr × Obj)) : Prop :=
  ∃ pl pvs pn st svs sn avs an tnx, m (Str.ofString "plain") = some (.ref pl) ∧ m (Str.ofString "steps") = some (.ref st) ∧ m (Str.ofString "parts") = some (.ref pa) ∧ m (Str.ofString "rows") = some (.ref D) ∧ m (Str.ofString "run") = some (.ref r) ∧ m (Str.ofString "other") = some (.ref ot) ∧
    nx = (pa, listOf (List.toArray avs) an) :: c3 :: c2 :: c1 :: tnx ∧ OwnOff tnx [pa, c3.1, c2.1, c1.1] ∧ (pl, listOf (List.toArray pvs) pn) ∈ tnx ∧ (st, listOf (List.toArray svs) sn) ∈ tnx ∧ (D, listOf (List.toArray ys) cnt) ∈ tnx ∧ LstIn tnx ys rows ∧
    Are (PairIn tnx) pvs (plainR run i) ∧ Are (StpIn g tnx) svs (stepsR rows run i) ∧ Are (PartIn tnx) avs (partsR rows run i)
theorem rep_norm {P : Prop} {g h : Heap} {L D r ot pa pl st : Addr} {m : Str → Option Value} {tup : Addr × Obj} {n1 n2 n3 cnt : Nat} {c3 c2 c1 : Addr × Obj} {ys : List Value} {rows : List (List Int)} (run : List (Int × Int)) {rnx : List (Addr × Obj)} (F : Fr g L h m)
    (N : News g L h (tup :: (st, listOf #[] n1) :: (pa, listOf #[] n2) :: (pl, listOf #[] n3) :: (D, listOf (List.toArray ys) cnt) :: c3 :: c2 :: c1 :: rnx))
    (e1 : m (Str.ofString "plain") = some (.ref pl)) (e2 : m (Str.ofString "steps") = some (.ref st)) (e3 : m (Str.ofString "parts") = some (.ref pa)) (e4 : m (Str.ofString "rows") = some (.ref D)) (e5 : m (Str.ofString "run") = some (.ref r)) (e6 : m (Str.ofString "other") = some (.ref ot))
    (hR : LstIn rnx ys rows) (q1 : @LT.lt Nat _ pl pa ∧ @LT.lt Nat _ D pa ∧ @LT.lt Nat _ c3.1 pa ∧ @LT.lt Nat _ c2.1 pa ∧ @LT.lt Nat _ c1.1 pa ∧ AllLt pa rnx) (q2 : @LT.lt Nat _ pa st) (hc : OwnOff (c3 :: c2 :: c1 :: rnx) [D]) (h1 : OwnOff ((pl, listOf #[] n3) :: (st, listOf #[] n1) :: rnx) [c3.1, c2.1, c1.1])
    (k : ∀ (pa : Addr) (m : Str → Option Value) (nx : List (Addr × Obj)), Far pa [c3.1, c2.1, c1.1] → Fr g L h m → News g L h nx → repJ g D r ot pa c3 c2 c1 ys cnt rows run 0 m nx → P) : P := by
  obtain ⟨l1, l2, l3, l4, l5, hA⟩ := q1
  have hD := allLt_all hA
  refine k pa m ((pa, listOf #[] n2) :: c3 :: c2 :: c1 :: (pl, listOf #[] n3) :: (st, listOf #[] n1) :: (D, listOf (List.toArray ys) cnt) :: rnx) ?_ F (news_sub N ?_)
    ⟨pl, [], n3, st, [], n1, [], n2, (pl, listOf #[] n3) :: (st, listOf #[] n1) :: (D, listOf (List.toArray ys) cnt) :: rnx, e1, e2, e3, e4, e5, e6, rfl, ?_, by simp, by simp, by simp, hR.more (fun p hp => by simp [hp]), Are.nil, Are.nil, Are.nil⟩
  · exact List.forall_mem_cons.mpr ⟨Nat.ne_of_gt l3, List.forall_mem_cons.mpr ⟨Nat.ne_of_gt l4, List.forall_mem_cons.mpr ⟨Nat.ne_of_gt l5, List.forall_mem_nil _⟩⟩⟩
  · k_extra "sub"
  · intro p hp b hb
    simp only [List.mem_cons] at hp
    rcases List.mem_cons.mp hb with rfl | hb
    · rcases hp with rfl | rfl | rfl | hp
      · exact Nat.ne_of_lt l1
      · exact Nat.ne_of_gt q2
      · exact Nat.ne_of_lt l2
      · exact Nat.ne_of_lt (hD p hp)
    · rcases hp with rfl | rfl | rfl | hp
      · exact h1 _ (by simp) b hb
      · exact h1 _ (by simp) b hb
      · simp only [List.mem_cons, List.not_mem_nil, or_false] at hb
        rcases hb with rfl | rfl | rfl
        · exact fun e => hc c3 (by simp) D (by simp) e.symm
        · exact fun e => hc c2 (by simp) D (by simp) e.symm
        · exact fun e => hc c1 (by simp) D (by simp) e.symm
      · exact h1 p (by simp [hp]) b hb

noncomputable def AddMark : Prop := True
theorem partsR_len (rows : List (List Int)) (run : List (Int × Int)) : ∀ i, (partsR rows run i).length = i
  | 0 => rfl
  | i + 1 => by simp [partsR, partsR_len rows run i]
section
variable {prog : Program} {w : World} {A : Around} {E : Value → Shared → Prop} {s : Shared} {h₀ : Heap} {L : Addr} {m : Str → Option Value} {news : List (Addr × Obj)}
theorem foldl_rep (v0 : Value) : ∀ (k : Nat) (a : Array Value), List.foldl (fun x1 x2 => x1 ++ x2) a (List.replicate k #[v0]) = a ++ List.toArray (List.replicate k v0)
  | 0, a => by simp
  | k + 1, a => by rw [List.replicate_succ, List.foldl_cons, foldl_rep v0 k, List.replicate_succ]; apply Array.toList_inj.mp; simp
theorem mul_K {l : Addr} {v0 : Value} {n k : Nat} {x : Int} {u : Tok} {Q : Value → Shared → Prop} (F : Fr h₀ L s.heap m) (N : News h₀ L s.heap news) (hm : (l, listOf #[v0] n) ∈ news) (hx : x = (k : Int)) (hk : k < 1000)
    (h : ∀ D h', Fr h₀ L h' m → News h₀ L h' ((D, listOf (List.toArray (List.replicate k v0)) 0) :: news) → (∀ q ∈ news, q.1 < D) → Q (.ref D) { s with heap := h' }) : wpAny (model prog w) A (binaryOp .Mult (.ref l) (.int x u)) Q E s :=
  mul_list F N (N _ hm).1 (by omega) (by omega) (by subst hx; simp; omega) fun h' F' N' => h _ h' F' (by
    subst hx
    have e : (List.foldl (fun x1 x2 => x1 ++ x2) #[] (List.replicate (if (#[v0] : Array Value).isEmpty = true then 0 else (k : Int).toNat) #[v0])) = List.toArray (List.replicate k v0) := by
      have := foldl_rep v0 k #[]
      simpa using this
    rw [e] at N'
    exact N') fun q hq => Heap.lt_size (N q hq).1
theorem add_K {l b : Addr} {vs ws : List Value} {n n2 : Nat} {Q : Value → Shared → Prop} (F : Fr h₀ L s.heap m) (N : News h₀ L s.heap news) (hl : (l, listOf (List.toArray vs) n) ∈ news) (hb : (b, listOf (List.toArray ws) n2) ∈ news) (hz : vs.length + ws.length ≤ 16777216)
    (h : ∀ D h', Fr h₀ L h' m → News h₀ L h' ((D, listOf (List.toArray (vs ++ ws)) 0) :: news) → (∀ q ∈ news, q.1 < D) → Q (.ref D) { s with heap := h' }) : wpAny (model prog w) A (binaryOp .Add (.ref l) (.ref b)) Q E s :=
  add_arrays F N ⟨_, (N _ hl).1, rfl, n, rfl⟩ ⟨_, (N _ hb).1, rfl, n2, rfl⟩ (fun h' F' N' => h _ h' F' N' fun q hq => Heap.lt_size (N q hq).1) (by rw [sizeLine_eq]; simpa using hz)
theorem item_end {value slice : Expr} {l : Addr} {vs : List Value} {n k : Nat} {u : Tok} {v : Value} {Q : Value → Shared → Prop} (N : News h₀ L s.heap news) (hl : (l, listOf (List.toArray (vs ++ [v])) n) ∈ news) (hk : vs.length = k) (hf : k < 1000) (h : Q v s)
    (hs : subscripted slice false (.ref l) (.int (k : Int) u) = operate [.ref l, .int (k : Int) u] (getItem (.ref l) (.int (k : Int) u)) := by with_unfolding_all rfl) (hg : ∀ r, letTemporaryGo value (.ref l) r = pure () := by intro _; with_unfolding_all rfl) :
    wpAny (model prog w) A (subscriptTail value slice (.ref l) (.int (k : Int) u)) Q E s :=
  item_lst (vs := vs ++ [v]) ⟨_, (N _ hl).1, rfl, n, rfl⟩ (by simp [← hk]) (by omega) (by omega) h hs hg
end

theorem getD_at {run : List (Int × Int)} {i : Nat} (h : i < run.length) : run.getD i (0, 0) = run[i] := by simp [List.getD, h]
theorem partF_len {rows : List (List Int)} {run : List (Int × Int)} {i : Nat} : (partF rows run i).length = (run.getD i (0, 0)).1.toNat + 1 := by simp [partF]
theorem plainR_le {run : List (Int × Int)} (h : ∀ p ∈ run, (p.1 = 1 ∨ p.1 = 2) ∧ 1 ≤ p.2) : ∀ i, i ≤ run.length → (plainR run i).length ≤ 3 * i
  | 0, _ => by simp [plainR]
  | i + 1, hi => by
    have := plainR_le h i (by omega)
    have h1 := (h _ (List.getElem_mem (show i < run.length by omega))).1
    simp only [plainR, getD_at (show i < run.length by omega), List.length_append, List.length_replicate, List.length_cons, List.length_nil]
    omega
theorem stepsR_le {rows : List (List Int)} {run : List (Int × Int)} (h : ∀ p ∈ run, (p.1 = 1 ∨ p.1 = 2) ∧ 1 ≤ p.2) : ∀ i, i ≤ run.length → (stepsR rows run i).length ≤ 3 * i
  | 0, _ => by simp [stepsR]
  | i + 1, hi => by
    have := stepsR_le (rows := rows) h i (by omega)
    have h1 := (h _ (List.getElem_mem (show i < run.length by omega))).1
    simp only [stepsR, List.length_append, partF_len, getD_at (show i < run.length by omega)]
    omega

theorem Are.rep {α : Type} {R : Value → α → Prop} {v : Value} {x : α} (r : R v x) : ∀ k : Nat, Are R (List.replicate k v) (List.replicate k x)
  | 0 => Are.nil
  | k + 1 => by
    rw [List.replicate_succ', List.replicate_succ']
    exact (Are.rep r k).snoc r
theorem rep_end {g h' : Heap} {L D r ot pa pl st a3 pl' st' X T0 T1 T2 T3 : Addr} {m' : Str → Option Value} {s₁ : Shared} {tk : Nat} {c3 c2 c1 : Addr × Obj} {ys avs pvs svs vals : List Value} {cnt an' pn' sn' xn n0 n1 n2 n3 i k : Nat} {rows : List (List Int)} {run : List (Int × Int)} {row : List Int} {ahead far : Int}
    {tnx own own3 : List (Addr × Obj)} {opl ost oa3 : Obj} {t1 t2 t3 t4 t5 : Tok} (new : List (Addr × Obj)) (F : Fr g L h' m')
    (N : News g L h' (new ++ (pa, listOf (List.toArray (avs ++ [Value.ref X])) an') :: c3 :: c2 :: c1 :: (pl, opl) :: (st, ost) :: (D, listOf (List.toArray ys) cnt) :: (a3, oa3) :: own3))
    (e1 : m' (Str.ofString "plain") = some (.ref pl')) (e2 : m' (Str.ofString "steps") = some (.ref st')) (e3 : m' (Str.ofString "parts") = some (.ref pa)) (e4 : m' (Str.ofString "rows") = some (.ref D)) (e5 : m' (Str.ofString "run") = some (.ref r)) (e6 : m' (Str.ofString "other") = some (.ref ot))
    (h3o : own3 = tnx ++ own) (hoff : OwnOff own (pa :: c3.1 :: c2.1 :: c1.1 :: tnx.map (·.1))) (ht : OwnOff tnx [pa, c3.1, c2.1, c1.1])
    (hnew : ∀ q ∈ new, @LT.lt Nat _ pa q.1 ∧ @LT.lt Nat _ c3.1 q.1 ∧ @LT.lt Nat _ c2.1 q.1 ∧ @LT.lt Nat _ c1.1 q.1 ∧ @LT.lt Nat _ pl q.1 ∧ @LT.lt Nat _ st q.1 ∧ @LT.lt Nat _ D q.1 ∧ @LT.lt Nat _ a3 q.1 ∧ AllLt q.1 own3)
    (k1 : (pl', listOf (List.toArray (pvs ++ List.replicate k (Value.ref T1) ++ [Value.ref T2])) pn') ∈ new) (k2 : (st', listOf (List.toArray (svs ++ (List.replicate k (Value.ref T3) ++ [Value.ref T0]))) sn') ∈ new) (k3 : (X, listOf (List.toArray (List.replicate k (Value.ref T3) ++ [Value.ref T0])) xn) ∈ new)
    (kT1 : (T1, tupO [Value.int 0 t1, .int 65 t2] n1) ∈ new) (kT2 : (T2, tupO [Value.int (2 + (i : Int)) t3, .int far t4] n2) ∈ new) (kT3 : (T3, tupO [Value.str (Str.ofString "lit") t5] n3) ∈ new) (kT0 : (T0, tupO vals n0) ∈ new) (hsp : StpVals vals (stpF row i far))
    (hg : run.getD i (0, 0) = (ahead, far)) (hk : ahead = (k : Int)) (hrow : rows[i]? = some row)
    (m3 : (D, listOf (List.toArray ys) cnt) ∈ tnx) (hR : LstIn tnx ys rows) (hpv : Are (PairIn tnx) pvs (plainR run i)) (hsv : Are (StpIn g tnx) svs (stepsR rows run i)) (hav : Are (PartIn tnx) avs (partsR rows run i)) :
    SrcTurn g L (repJ g D r ot pa c3 c2 c1 ys cnt rows run (i + 1)) own s₁ .next { s₁ with heap := h', toks := tk } := by
  subst h3o hk
  have sub : ∀ p ∈ tnx, p ∈ new ++ tnx := fun p hp => List.mem_append_right _ hp
  have hra : rowA rows i = row := by unfold rowA; simp [List.getD, hrow]
  have hpart : partF rows run i = List.replicate k .lit ++ [stpF row i far] := by unfold partF; rw [hg, hra]; simp
  have hp1 : Are (PairIn (new ++ tnx)) (pvs ++ List.replicate k (Value.ref T1) ++ [Value.ref T2]) (plainR run (i + 1)) := by
    have e : plainR run (i + 1) = plainR run i ++ List.replicate k (0, 65) ++ [(2 + (i : Int), far)] := by simp only [plainR, hg, Int.toNat_natCast, List.append_assoc]
    rw [e]
    exact ((hpv.mono fun v p x => x.more sub).append (Are.rep ⟨T1, t1, t2, n1, rfl, List.mem_append_left _ kT1⟩ k)).snoc ⟨T2, t3, t4, n2, rfl, List.mem_append_left _ kT2⟩
  have hx1 : Are (StpL (new ++ tnx)) (List.replicate k (Value.ref T3) ++ [Value.ref T0]) (partF rows run i) := by
    rw [hpart]
    exact (Are.rep (x := Stp.lit) ⟨T3, _, n3, rfl, List.mem_append_left _ kT3, ⟨t5, rfl⟩⟩ k).snoc ⟨T0, vals, n0, rfl, List.mem_append_left _ kT0, hsp⟩
  refine src_next (nx := (pa, listOf (List.toArray (avs ++ [Value.ref X])) an') :: c3 :: c2 :: c1 :: (new ++ tnx)) F N
    ⟨pl', _, pn', st', _, sn', _, an', new ++ tnx, e1, e2, e3, e4, e5, e6, rfl, ?_, List.mem_append_left _ k1, List.mem_append_left _ k2, sub _ m3, hR.more sub, hp1, (hsv.mono fun v p x => x.more sub).append (hx1.mono fun v p x => x.in_), (hav.mono fun v p x => x.more sub).snoc ⟨X, _, xn, rfl, List.mem_append_left _ k3, hx1⟩⟩ ?_ ?_ ?_
  · intro p hp b hb
    rcases List.mem_append.mp hp with hp | hp
    · obtain ⟨l1, l2, l3, l4, _⟩ := hnew p hp
      simp only [List.mem_cons, List.not_mem_nil, or_false] at hb
      rcases hb with rfl | rfl | rfl | rfl
      · exact Nat.ne_of_gt l1
      · exact Nat.ne_of_gt l2
      · exact Nat.ne_of_gt l3
      · exact Nat.ne_of_gt l4
    · exact ht p hp b hb
  · intro p hp b hb
    simp only [List.map_cons, List.map_append, List.mem_cons, List.mem_append] at hb
    rcases hb with rfl | rfl | rfl | rfl | hb | hb
    · exact hoff p hp _ (by simp)
    · exact hoff p hp _ (by simp)
    · exact hoff p hp _ (by simp)
    · exact hoff p hp _ (by simp)
    · obtain ⟨q, hq, rfl⟩ := List.mem_map.mp hb
      exact Nat.ne_of_lt (allLt_all (hnew q hq).2.2.2.2.2.2.2.2 p (List.mem_append_right _ hp))
    · exact hoff p hp b (.tail _ (.tail _ (.tail _ (.tail _ hb))))
  · k_extra "sub"
  · intro p hp
    simp [hp]

noncomputable def stpD : Stp → PyData
  | .lit => .tuple [.str (Str.ofString "lit")]
  | .rep i n => .tuple [.str (Str.ofString "rep"), .int i, .int n]
  | .mat d n => .tuple [.str (Str.ofString "match"), .int d, .int n]
theorem reads_stp {h : Heap} {v : Value} {s : Stp} (x : StpAt h v s) : Reads h v (stpD s) [] := by
  obtain ⟨a, vals, rfl, ⟨o, ho, hc, n, hd⟩, hv⟩ := x
  cases s with
  | lit => obtain ⟨t, rfl⟩ := hv; exact Reads.tuple ho hc hd (by simpa using ReadsAll.cons (Reads.str _ t) .nil)
  | rep i k => obtain ⟨t1, t2, t3, rfl⟩ := hv; exact Reads.tuple ho hc hd (by simpa using ReadsAll.cons (Reads.str _ t1) (.cons (Reads.int i t2) (.cons (Reads.int k t3) .nil)))
  | mat i k => obtain ⟨t1, t2, t3, rfl⟩ := hv; exact Reads.tuple ho hc hd (by simpa using ReadsAll.cons (Reads.str _ t1) (.cons (Reads.int i t2) (.cons (Reads.int k t3) .nil)))
theorem reads_stps {h : Heap} : ∀ {vs : List Value} {ss : List Stp}, Are (StpAt h) vs ss → ReadsAll h vs (ss.map stpD) []
  | [], [], _ => .nil
  | [], _ :: _, x => by have := x.1; simp at this
  | _ :: _, [], x => by have := x.1; simp at this
  | v :: vs, s :: ss, x => by
    have h1 := ReadsAll.cons (reads_stp (x.2 0 v s rfl rfl)) (reads_stps (vs := vs) (ss := ss) ⟨by simpa using x.1, fun i v' s' hv hs => x.2 (i + 1) v' s' (by simpa using hv) (by simpa using hs)⟩)
    simpa using h1
section
open PySem.Spec PyProof.V PySem.SeqAt
theorem ok_lit : PyData.strOk (Str.ofString "lit") = true := by decide +kernel
theorem ok_rep : PyData.strOk (Str.ofString "rep") = true := by decide +kernel
theorem ok_mat : PyData.strOk (Str.ofString "match") = true := by decide +kernel
theorem canLay_stps : ∀ ss : List Stp, PyData.canLayAll0 (ss.map stpD) = true
  | [] => by simp [PyData.canLayAll0]
  | s :: r => by cases s <;> simp [PyData.canLayAll0, PyData.canLay0, stpD, canLay_stps r, ok_lit, ok_rep, ok_mat]
theorem depth_stps : ∀ ss : List Stp, PyData.depthAll (ss.map stpD) ≤ 3
  | [] => by simp [PyData.depthAll]
  | s :: r => by
    have := depth_stps r
    cases s <;> simp only [List.map_cons, PyData.depthAll, PyData.depth, stpD] <;> omega
theorem shaped_stps (ss : List Stp) : shaped (.list (ss.map stpD)) = true := by
  have h1 := depth_stps ss
  have h2 : PyData.depth (.list (ss.map stpD)) ≤ 64 := by simp only [PyData.depth]; omega
  show (PyData.canLay0 (.list (ss.map stpD)) && decide (PyData.depth (.list (ss.map stpD)) ≤ 64)) = true
  rw [Bool.and_eq_true]
  exact ⟨by simp only [PyData.canLay0]; exact canLay_stps ss, decide_eq_true h2⟩
theorem noMix_stps : ∀ ss : List Stp, noMixAll (ss.map stpD) (ss.map stpD) = true
  | [] => by simp [noMixAll]
  | s :: r => by cases s <;> simp [noMixAll, noMix, stpD, noMix_stps r]
theorem same_stps : ∀ ss : List Stp, PySem.Spec.sameAll (ss.map stpD) (ss.map stpD) = true
  | [] => by simp [PySem.Spec.sameAll]
  | s :: r => by cases s <;> simp [PySem.Spec.sameAll, PySem.Spec.same, stpD, same_stps r]
section
variable {prog : Program} {w : World} {A : Around} {E : Value → Shared → Prop} {s : Shared}
theorem reads_lst {h : Heap} {a : Addr} {ss : List Stp} (x : LstAt StpAt h a ss) : Reads h (.ref a) (.list (ss.map stpD)) [a] := by
  obtain ⟨vs, ⟨o, ho, hc, n, hd⟩, hi⟩ := x
  exact Reads.list ho hc hd (by simpa using reads_stps hi)
theorem ne_steps {a b : Addr} {xs ys : List Stp} {Q : Value → Shared → Prop} (ha : LstAt StpAt s.heap a xs) (hb : LstAt StpAt s.heap b ys) (e : xs = ys) (hu : A.units + 64 < cLine) (h : Q (.bool false) s) : wpAny (model prog w) A (compareOp .NotEq (.ref a) (.ref b)) Q E s := by
  subst e
  exact ne_dataH_same (reads_lst ha) (reads_lst hb) (shaped_stps _) (shaped_stps _) hu (by simp only [noMix]; exact noMix_stps _) (by simp only [PySem.Spec.same]; rw [same_stps]; exact h)
end
end
theorem plain_at {g h : Heap} {L pl : Addr} {news tnx : List (Addr × Obj)} {pvs : List Value} {n : Nat} {xs : List (Int × Int)} (N : News g L h news) (hm : (pl, listOf (List.toArray pvs) n) ∈ news) (x : Are (PairIn tnx) pvs xs) (hs : ∀ p ∈ tnx, p ∈ news) : LstAt PairAt h pl xs :=
  ⟨pvs, ⟨_, (N _ hm).1, rfl, n, rfl⟩, x.mono fun _ _ y => y.at N hs⟩
theorem steps_at {g h : Heap} {L st : Addr} {m : Str → Option Value} {news tnx : List (Addr × Obj)} {svs : List Value} {n : Nat} {xs : List Stp} (F : Fr g L h m) (N : News g L h news) (hm : (st, listOf (List.toArray svs) n) ∈ news) (x : Are (StpIn g tnx) svs xs) (hs : ∀ p ∈ tnx, p ∈ news) : LstAt StpAt h st xs :=
  ⟨svs, ⟨_, (N _ hm).1, rfl, n, rfl⟩, x.mono fun _ _ y => y.at F N hs⟩
theorem spl_at {w : World} {pl x dx l : Addr} {h1 : Int} {k1 : Tok} {vs : List Value} {ns : List Int} {plain : List (Int × Int)} (hi : IntsAre vs ns) (hn : ns.length = 4) (hpl : plain.length < 1000) (hq : ∀ p ∈ plain, p.1 = 0 ∨ (2 ≤ p.1 ∧ p.1 ≤ 273 ∧ 1 ≤ p.2)) :
    Does w 233 [.ref pl, .ref x] 16 [] (fun h => LstAt PairAt h pl plain ∧ (h.get? x = some (instObj 184 dx) ∧ h.get? dx = some (dictOf [⟨h1, .str "row" k1, .ref l⟩] 1)) ∧ h.IsList l vs.toArray) (fun v news h => ∃ f, v = .ref f ∧ LstAt StpAt h f (spS ns plain plain.length).2) :=
  spl_does w pl x dx l h1 k1 vs ns plain hi hn hpl hq
theorem plainR_ok {run : List (Int × Int)} (h : ∀ p ∈ run, (p.1 = 1 ∨ p.1 = 2) ∧ 1 ≤ p.2) (hn : run.length < 100) : ∀ i, i ≤ run.length → ∀ p ∈ plainR run i, p.1 = 0 ∨ (2 ≤ p.1 ∧ p.1 ≤ 273 ∧ 1 ≤ p.2)
  | 0, _ => fun p hp => by simp [plainR] at hp
  | i + 1, hi => fun p hp => by
    have h1 := (h _ (List.getElem_mem (show i < run.length by omega))).2
    simp only [plainR, getD_at (show i < run.length by omega), List.mem_append, List.mem_singleton] at hp
    rcases hp with hp | hp | rfl
    · exact plainR_ok h hn i (by omega) p hp
    · rw [(List.mem_replicate.mp hp).2]; exact .inl rfl
    · exact .inr ⟨by dsimp only; omega, by dsimp only; omega, h1⟩

noncomputable abbrev rowD (h : Int) (k : Tok) (l : Addr) : Obj := dictOf [⟨h, .str (Str.ofString "row") k, .ref l⟩] 1
noncomputable def rep2J (D r pa hl wd wx rd rx : Addr) (cr cw : Addr × Obj) (opa oD ohl : Obj) (hw hr : Int) (kw kr : Tok) (tnx : List (Addr × Obj)) (bs os : List Int) (run : List (Int × Int)) (i : Nat) (m : Str → Option Value) (nx : List (Addr × Obj)) : Prop :=
  ∃ wl wvs wn rl rvs rn, m (Str.ofString "rows") = some (.ref D) ∧ m (Str.ofString "run") = some (.ref r) ∧ m (Str.ofString "heard") = some (.ref hl) ∧
    nx = (wd, rowD hw kw wl) :: (wl, listOf (List.toArray wvs) wn) :: (rd, rowD hr kr rl) :: (rl, listOf (List.toArray rvs) rn) :: (wx, instObj 184 wd) :: (rx, instObj 184 rd) :: (pa, opa) :: cr :: cw :: (hl, ohl) :: (D, oD) :: tnx ∧
    Far wl [wd, rd] ∧ Far rl [wd, rd] ∧ IntsAre wvs (pairS 4 bs os run i).1.1 ∧ IntsAre rvs (pairS 4 bs os run i).1.2
theorem rep2_norm {P : Prop} {g h : Heap} {L D r pa hl wd wx wl rd rx rl Dt pl st : Addr} {m : Str → Option Value} {tnx : List (Addr × Obj)} {hw hr : Int} {kw kr : Tok} {Lr Lw : Addr} {ocr ocw : Obj} {c1 : Addr × Obj} {ot opa opl ost oD : Obj} {hvs bvs ovs : List Value} {hn wn rn : Nat} {bs os hrd : List Int} (run : List (Int × Int))
    (F : Fr g L h m) (N : News g L h ((hl, listOf (List.toArray hvs) hn) :: (Dt, ot) :: (rl, listOf (List.toArray ovs) rn) :: (rx, instObj 184 rd) :: (rd, rowD hr kr rl) :: (wl, listOf (List.toArray bvs) wn) :: (wx, instObj 184 wd) :: (wd, rowD hw kw wl) :: (pa, opa) :: (Lr, ocr) :: (Lw, ocw) :: c1 :: (pl, opl) :: (st, ost) :: (D, oD) :: tnx))
    (e4 : m (Str.ofString "rows") = some (.ref D)) (e5 : m (Str.ofString "run") = some (.ref r)) (e7 : m (Str.ofString "heard") = some (.ref hl))
    (q1 : @LT.lt Nat _ pa wd ∧ @LT.lt Nat _ Lr wd ∧ @LT.lt Nat _ Lw wd ∧ @LT.lt Nat _ c1.1 wd ∧ @LT.lt Nat _ pl wd ∧ @LT.lt Nat _ st wd ∧ @LT.lt Nat _ D wd ∧ AllLt wd tnx) (q2 : @LT.lt Nat _ wd wx)
    (q4 : @LT.lt Nat _ wl rd ∧ @LT.lt Nat _ wx rd ∧ @LT.lt Nat _ wd rd ∧ @LT.lt Nat _ pa rd ∧ @LT.lt Nat _ Lr rd ∧ @LT.lt Nat _ Lw rd ∧ @LT.lt Nat _ c1.1 rd ∧ @LT.lt Nat _ pl rd ∧ @LT.lt Nat _ st rd ∧ @LT.lt Nat _ D rd ∧ AllLt rd tnx) (q5 : @LT.lt Nat _ rd rx) (q6 : @LT.lt Nat _ wd wl ∧ @LT.lt Nat _ rd rl)
    (q7 : @Ne Nat wd hl ∧ @Ne Nat rd hl) (hb : IntsAre bvs bs) (ho : IntsAre ovs os) (dw : ocw.data = Data.cell (some (Value.ref wx))) (hh : IntsAre hvs hrd) (dr : ocr.data = Data.cell (some (Value.ref rx)))
    (k : ∀ (ocr ocw : Obj) (hvs : List Value) (hn : Nat) (wd wx rd rx hl : Addr) (hw hr : Int) (kw kr : Tok) (m : Str → Option Value) (nx : List (Addr × Obj)), ocw.data = Data.cell (some (Value.ref wx)) → ocr.data = Data.cell (some (Value.ref rx)) → IntsAre hvs hrd → Far wd [rd, wx, rx, pa, Lr, Lw, hl, D] → Far rd [wx, rx, pa, Lr, Lw, hl, D] → OwnOff tnx [wd, rd] →
      Fr g L h m → News g L h nx → rep2J D r pa hl wd wx rd rx (Lr, ocr) (Lw, ocw) opa oD (listOf (List.toArray hvs) hn) hw hr kw kr tnx bs os run 0 m nx → P) : P := by
  obtain ⟨a1, a2, a3, _, _, _, a7, aA⟩ := q1
  obtain ⟨b1, b2, b3, b4, b5, b6, _, _, _, b10, bA⟩ := q4
  refine k ocr ocw hvs hn wd wx rd rx hl hw hr kw kr m ((wd, rowD hw kw wl) :: (wl, listOf (List.toArray bvs) wn) :: (rd, rowD hr kr rl) :: (rl, listOf (List.toArray ovs) rn) :: (wx, instObj 184 wd) :: (rx, instObj 184 rd) :: (pa, opa) :: (Lr, ocr) :: (Lw, ocw) :: (hl, listOf (List.toArray hvs) hn) :: (D, oD) :: tnx)
    dw dr hh ?_ ?_ ?_ F (news_sub N ?_) ⟨wl, bvs, wn, rl, ovs, rn, e4, e5, e7, rfl, ?_, ?_, hb, ho⟩
  · intro b hb
    simp only [List.mem_cons, List.not_mem_nil, or_false] at hb
    rcases hb with rfl | rfl | rfl | rfl | rfl | rfl | rfl | rfl
    · exact Nat.ne_of_lt b3
    · exact Nat.ne_of_lt q2
    · exact Nat.ne_of_lt (Nat.lt_trans b3 q5)
    · exact Nat.ne_of_gt a1
    · exact Nat.ne_of_gt a2
    · exact Nat.ne_of_gt a3
    · exact q7.1
    · exact Nat.ne_of_gt a7
  · intro b hb
    simp only [List.mem_cons, List.not_mem_nil, or_false] at hb
    rcases hb with rfl | rfl | rfl | rfl | rfl | rfl | rfl
    · exact Nat.ne_of_gt b2
    · exact Nat.ne_of_lt q5
    · exact Nat.ne_of_gt b4
    · exact Nat.ne_of_gt b5
    · exact Nat.ne_of_gt b6
    · exact q7.2
    · exact Nat.ne_of_gt b10
  · intro p hp b hb
    simp only [List.mem_cons, List.not_mem_nil, or_false] at hb
    rcases hb with rfl | rfl
    · exact Nat.ne_of_lt (allLt_all aA p hp)
    · exact Nat.ne_of_lt (allLt_all bA p hp)
  · k_extra "sub"
  · exact List.forall_mem_cons.mpr ⟨Nat.ne_of_gt q6.1, List.forall_mem_cons.mpr ⟨Nat.ne_of_lt b1, List.forall_mem_nil _⟩⟩
  · exact List.forall_mem_cons.mpr ⟨Nat.ne_of_gt (Nat.lt_trans b3 q6.2), List.forall_mem_cons.mpr ⟨Nat.ne_of_gt q6.2, List.forall_mem_nil _⟩⟩

noncomputable def distJ (dx : Addr) (h : Int) (k : Tok) (fix : List Addr) (ow : List (Addr × Obj)) (rest : List (Addr × Obj)) (W W' : List Int) (K : Nat) (d : Int) (j : Nat) (ys : List Value) (nx : List (Addr × Obj)) : Prop :=
  ∃ l vs n ns zs, nx = (dx, rowD h k l) :: (l, listOf (List.toArray vs) n) :: rest ∧ Far l fix ∧ OwnOff ow [l] ∧ IntsAre vs ns ∧ IntsAre ys zs ∧ ((j ≤ K ∧ ns = W ∧ zs = List.replicate j 0) ∨ (j = K + 1 ∧ ns = W' ∧ zs = List.replicate K 0 ++ [d]))
section
variable {w : World} {x dx l st : Addr} {h1 : Int} {k1 : Tok} {vs : List Value} {ns : List Int} {t1 t2 t3 : Tok} {i len : Int}
theorem dlit_at {rv : Value} : Does w 218 [.ref st, rv] 3 [] (fun h => IsTup h st [Value.str (Str.ofString "lit") t1].toArray) (fun v _ _ => ∃ t, v = .int 0 t) := dlit_does w st t1 rv
theorem dmat_at (hl1 : 2 ≤ len) (hl2 : len ≤ 273) (hx : x ≠ dx) (hl : l ≠ dx) (hs : st ≠ dx) (hi : IntsAre vs ns) (h4 : ns.length ≤ 4) :
    Does w 218 [.ref st, .ref x] 4 [(dx, rowD h1 k1 l)] (fun h => (h.get? x = some (instObj 184 dx) ∧ h.IsList l vs.toArray) ∧ IsTup h st [Value.str (Str.ofString "match") t1, .int i t2, .int len t3].toArray)
      (fun v news _ => ∃ t, v = .int i t ∧ RepIs dx h1 k1 (i :: ns.take 3) news) := dmat_does w x dx l h1 k1 vs ns st t1 t2 t3 i len hl1 hl2 hx hl hs hi h4
theorem drep_at (hl1 : 2 ≤ len) (hl2 : len ≤ 273) (hx : x ≠ dx) (hl : l ≠ dx) (hs : st ≠ dx) (hi : IntsAre vs ns) (h0 : 0 ≤ i) (h1i : i < ns.length) (h4 : ns.length ≤ 4) :
    Does w 218 [.ref st, .ref x] 4 [(dx, rowD h1 k1 l)] (fun h => (h.get? x = some (instObj 184 dx) ∧ h.IsList l vs.toArray) ∧ IsTup h st [Value.str (Str.ofString "rep") t1, .int i t2, .int len t3].toArray)
      (fun v news _ => ∃ t, v = .int (ns.getD i.toNat 0) t ∧ RepIs dx h1 k1 (ns.getD i.toNat 0 :: (ns.take i.toNat ++ ns.drop (i.toNat + 1))) news) := drep_does w x dx l h1 k1 vs ns st t1 t2 t3 i len hl1 hl2 hx hl hs hi h0 h1i h4
end
theorem ints_rep (x : Int) (t : Tok) : ∀ k : Nat, IntsAre (List.replicate k (Value.int x t)) (List.replicate k x)
  | 0 => IntsAre.nil
  | k + 1 => IntsAre.cons x t (ints_rep x t k)
section
variable {g h' : Heap} {L C Dc dx l l' : Addr} {m : Str → Option Value} {oC oD odx ol : Obj} {J : List Value → List (Addr × Obj) → Prop} {ys vs' : List Value} {n' tk : Nat} {hh : Int} {kk : Tok} {y : Value} {own2 own3 own4 : List (Addr × Obj)} {tp : Addr × Obj} {s₁ : Shared}
theorem dist_end (ex : List (Addr × Obj)) (F : Fr g L h' m) (N : News g L h' ((l', listOf (List.toArray vs') n') :: (C, oC) :: (Dc, oD) :: (dx, rowD hh kk l') :: (l, ol) :: (ex ++ tp :: own4))) (hne : AllNe l' ((C, oC) :: (Dc, oD) :: (dx, odx) :: (l, ol) :: (ex ++ tp :: own4))) (h4 : own4 = own3 ++ own2)
    (h1 : OwnOff own2 (((dx, odx) :: (l, ol) :: (ex ++ own3)).map (·.1))) (h3 : OwnOff ((dx, odx) :: (l, ol) :: (ex ++ own3)) [C, Dc])
    (hj : (∀ p ∈ (C, oC) :: (Dc, oD) :: (dx, odx) :: (l, ol) :: (ex ++ tp :: own4), p.1 ≠ l') → J (ys ++ [y]) ((dx, rowD hh kk l') :: (l', listOf (List.toArray vs') n') :: (ex ++ own3))) : EltEnd g L m J ys ((C, oC) :: (Dc, oD) :: own2) s₁ y { s₁ with heap := h', toks := tk } := by
  subst h4
  have hall := allNe_all hne
  refine elt_end (nx := (dx, rowD hh kk l') :: (l', listOf (List.toArray vs') n') :: (ex ++ own3)) F N (hj hall) ?_ ?_ ?_
  · intro p hp b hb
    have hb' : b = l' ∨ b ∈ ((dx, odx) :: (l, ol) :: (ex ++ own3)).map (·.1) := by
      simp only [List.map_cons, List.mem_cons] at hb ⊢
      rcases hb with h | h | h
      · exact .inr (.inl h)
      · exact .inl h
      · exact .inr (.inr (.inr h))
    rcases List.mem_cons.mp hp with rfl | hp
    · rcases hb' with rfl | hb'
      · exact hall _ (.head _)
      · obtain ⟨q, hq, rfl⟩ := List.mem_map.mp hb'
        exact fun e => h3 q hq C (.head _) e.symm
    · rcases List.mem_cons.mp hp with rfl | hp
      · rcases hb' with rfl | hb'
        · exact hall _ (.tail _ (.head _))
        · obtain ⟨q, hq, rfl⟩ := List.mem_map.mp hb'
          exact fun e => h3 q hq Dc (.tail _ (.head _)) e.symm
      · rcases hb' with rfl | hb'
        · exact hall _ (.tail _ (.tail _ (.tail _ (.tail _ (List.mem_append_right _ (.tail _ (List.mem_append_right _ hp)))))))
        · exact h1 p hp b hb'
  · k_extra "sub"
  · k_extra "sub"
theorem dist_lit (ex : List (Addr × Obj)) (F : Fr g L h' m) (N : News g L h' ((C, oC) :: (Dc, oD) :: (dx, odx) :: (l, ol) :: (ex ++ tp :: own4))) (h4 : own4 = own3 ++ own2)
    (h1 : OwnOff own2 (((dx, odx) :: (l, ol) :: (ex ++ own3)).map (·.1))) (h3 : OwnOff ((dx, odx) :: (l, ol) :: (ex ++ own3)) [C, Dc])
    (hj : J (ys ++ [y]) ((dx, odx) :: (l, ol) :: (ex ++ own3))) : EltEnd g L m J ys ((C, oC) :: (Dc, oD) :: own2) s₁ y { s₁ with heap := h', toks := tk } := by
  subst h4
  refine elt_fix (nx := (dx, odx) :: (l, ol) :: (ex ++ own3)) (nx' := (dx, odx) :: (l, ol) :: (ex ++ own3)) F (news_sub N ?_) h1 h3 rfl hj
  intro p hp
  simp only [List.mem_cons, List.mem_append, List.cons_append] at hp ⊢
  rcases hp with h | h | h | h | (h | h) | h <;> simp [h]
end
theorem part_at {rows : List (List Int)} {run : List (Int × Int)} {i k : Nat} {row : List Int} {far : Int} (hg : run.getD i (0, 0) = ((k : Int), far)) (hrow : rows[i]? = some row) : partF rows run i = List.replicate k .lit ++ [stpF row i far] := by
  have hra : rowA rows i = row := by unfold rowA; simp [List.getD, hrow]
  unfold partF; rw [hg, hra]; simp
theorem partsR_at (rows : List (List Int)) (run : List (Int × Int)) : ∀ n i, i < n → (partsR rows run n)[i]? = some (partF rows run i)
  | 0, i, h => by omega
  | n + 1, i, h => by
    have hl := partsR_len rows run n
    by_cases hi : i < n
    · simp only [partsR]; rw [List.getElem?_append_left (by omega)]; exact partsR_at rows run n i hi
    · obtain rfl : i = n := by omega
      simp only [partsR]; rw [List.getElem?_append_right (by omega), hl]; simp

theorem pairS_len {b o : List Int} (hb : b.length = 4) (ho : o.length = 4) (run : List (Int × Int)) : ∀ i, i ≤ run.length → (pairS 4 b o run i).1.1.length = 4 ∧ (pairS 4 b o run i).1.2.length = 4
  | 0, _ => ⟨hb, ho⟩
  | i + 1, hi => by
    obtain ⟨h1, h2⟩ := pairS_len hb ho run i (by omega)
    rw [pairS_succ (by omega)]
    exact ⟨mv_len (by omega) h1 h1, mv_len (by omega) h1 h2⟩
theorem mvR_in {f : Int} {W X : List Int} (h : f ∈ W) : mvR 4 f W X = X.getD (W.idxOf f) 0 :: (X.take (W.idxOf f) ++ X.drop (W.idxOf f + 1)) := if_pos h
theorem mvR_out {f : Int} {W X : List Int} (h : f ∉ W) : mvR 4 f W X = f :: X.take 3 := if_neg h
theorem tell_in {f : Int} {W X : List Int} (h : f ∈ W) : tell f W X = X.getD (W.idxOf f) 0 := if_pos h
theorem tell_out {f : Int} {W X : List Int} (h : f ∉ W) : tell f W X = f := if_neg h
theorem part_lit {k : Nat} {s : Stp} {j : Nat} (h : j < k) : (List.replicate k Stp.lit ++ [s])[j]? = some .lit := by
  rw [List.getElem?_append_left (by simpa using h)]; simp [h]
theorem part_step {k : Nat} {s : Stp} : (List.replicate k Stp.lit ++ [s])[k]? = some s := by
  rw [List.getElem?_append_right (by simp)]; simp

theorem far_at {l : List (Addr × Obj)} {A : List Addr} {C a b : Addr} {o1 o2 : Obj} (h : OwnOff l A) (hC : C ∈ A) (m1 : (a, o1) ∈ l) (m2 : (b, o2) ∈ l) : Far C [a, b] :=
  List.forall_mem_cons.mpr ⟨fun e => h _ m1 C hC e.symm, List.forall_mem_cons.mpr ⟨fun e => h _ m2 C hC e.symm, List.forall_mem_nil _⟩⟩
theorem far_two {l : List (Addr × Obj)} {C D a b : Addr} {o1 o2 : Obj} (h : OwnOff l [C, D]) (m1 : (a, o1) ∈ l) (m2 : (b, o2) ∈ l) : Far C [a, b] ∧ Far D [a, b] := ⟨far_at h (.head _) m1 m2, far_at h (.tail _ (.head _)) m1 m2⟩

theorem word79 : True := by
  (k_with "w:binaryOp Mult ref int" => row_timed "z" ((k_here; (with_reducible rename AddMark => z9hMk9); (with_reducible show wpAny _ _ (binaryOp Operator.Mult (Value.ref _) (Value.int _ _)) _ _ _); (k_dflt (refine' mul_K ?z9F ?z9N ?z9m ?z9x ?z9k ?_)); (case z9F => k_dflt k_asm); (case z9N => k_dflt k_asm); (case z9m => k_dflt k_mem); (case z9x => first | with_reducible assumption | exact rfl); (case z9k => omega); k_whole; (intro z9D' z9h' z9F' z9N' z9l1); (try k_lt z9l1); (try k_sweep))))
  trivial

theorem word80 : True := by
  (k_with "w:binaryOp Add ref ref" => row_timed "z" ((k_here; (with_reducible rename AddMark => z9hMk9); (with_reducible show wpAny _ _ (binaryOp Operator.Add (Value.ref _) (Value.ref _)) _ _ _); (k_dflt (refine' add_K ?z9F ?z9N ?z9a ?z9b ?z9z ?_)); (case z9F => k_dflt k_asm); (case z9N => k_dflt k_asm); (case z9a => k_dflt k_mem); (case z9b => k_dflt k_mem); (case z9z => ((try simp only [List.length_append, List.length_replicate, List.length_cons, List.length_nil]); omega)); k_whole; (intro z9D' z9h' z9F' z9N' z9l1); (try k_lt z9l1); (try k_sweep))))
  trivial

theorem word81 : True := by
  (k_with "w:subscriptTail Name Name ref int" => row_timed "z" ((k_here; (with_reducible rename AddMark => z9hMk9); (with_reducible show wpAny _ _ (subscriptTail _ _ (Value.ref _) (Value.int _ _)) _ _ _); (k_dflt (refine' item_end ?z9N ?z9l ?z9k ?z9f ?_)); (case z9N => k_dflt k_asm); (case z9l => k_dflt k_mem); (case z9k => with_reducible assumption); (case z9f => omega); k_whole)))
  trivial

theorem word82 : True := by
  (k_with "w:call ref" => row_timed "z" ((k_here; (with_reducible show wpAny _ _ (call (Value.ref 233) _) _ _ _); (k_dflt (refine' does_use0 (spl_at ?z9hi ?z9hn ?z9hpl ?z9hq) ?z9cx ?z9F ?z9N ?z9hp ?z9hdp ?z9hun ?_)); (case z9cx => k_dflt k_asm); (case z9F => k_dflt k_asm); (case z9N => k_dflt k_asm); (case z9hp => k_dflt (exact ⟨plain_at (by k_asm) (by k_mem) (by assumption) (by intro p hp; k_ownIn), ⟨by (first | exact got_base (by k_asm) (by assumption) | exact got_news (by k_asm) (by k_mem)), by (first | exact got_base (by k_asm) (by assumption) | exact got_news (by k_asm) (by k_mem))⟩, ⟨_, got_news (by k_asm) (by k_mem), rfl, _, rfl⟩⟩)); (case z9hdp => ((try dsimp only [top]); omega)); (case z9hun => ((try dsimp only [top]); omega)); (case z9hi => with_reducible assumption); (case z9hn => with_reducible assumption); (case z9hpl => omega); (case z9hq => with_reducible assumption); k_whole; (k_dflt (rintro z9v' z9new' z9h' z9tk' z9F' z9N' z9hnew' z9st' z9hpost'; refine (let z9G' : Prop := _; (?_ : z9G')); obtain ⟨z9f', z9e', z9ho'⟩ := z9hpost')); subst z9e'; clear z9hnew' z9st'; (try k_unmd); (try k_unfold); (try dsimp only); (try k_fold))))
  trivial

theorem word83 : True := by
  (k_with "w:compareOp NotEq ref ref" => row_timed "z" ((k_here; (with_reducible show wpAny _ _ (compareOp CmpOp.NotEq (Value.ref _) (Value.ref _)) _ _ _); (k_dflt (refine' ne_steps ?z9a ?z9b ?z9e ?z9u ?_)); (case z9a => k_dflt assumption); (case z9b => k_dflt exact steps_at (by k_asm) (by k_asm) (by k_mem) (by assumption) (by intro p hp; k_ownIn)); (case z9e => with_reducible assumption); (case z9u => ((try dsimp only [top, Around.deeper]); omega)); k_whole)))
  trivial

theorem word84 : True := by
  (k_with "w:call ref" => row_timed "z" ((k_here; (with_reducible show wpAny _ _ (call (Value.ref 218) _) _ _ _); (k_dflt (refine' does_use0 dlit_at ?z9cx ?z9F ?z9N ?z9hp ?z9hdp ?z9hun ?_)); (case z9cx => k_dflt k_asm); (case z9F => k_dflt k_asm); (case z9N => k_dflt k_asm); (case z9hp => k_dflt (exact tup_news (by k_asm) (by k_mem))); (case z9hdp => ((try dsimp only [top]); omega)); (case z9hun => ((try dsimp only [top]); omega));  k_whole; (k_dflt (rintro z9v' z9new' z9h' z9tk' z9F' z9N' z9hnew' z9st' z9hpost'; refine (let z9G' : Prop := _; (?_ : z9G')); obtain ⟨z9t', z9e'⟩ := z9hpost')); subst z9e'; clear z9hnew' z9st'; (try k_unmd); (try k_unfold); (try dsimp only); (try k_fold))))
  trivial

theorem word85 : True := by
  (k_with "w:call ref" => row_timed "z" ((k_here; (with_reducible show wpAny _ _ (call (Value.ref 218) _) _ _ _); (k_dflt (refine' does_use1 (dmat_at ?z9a ?z9b ?z9hx ?z9hl ?z9hs ?z9hi ?z9h4) ?z9cx ?z9F ?z9N ?z9U (And.intro (And.intro ?z9hp1 ?z9hp2) ?z9hp3) ?z9hdp ?z9hun ?_)); (case z9cx => k_dflt k_asm); (case z9F => k_dflt k_asm); (case z9N => k_dflt k_asm); (case z9hp3 => k_dflt (exact tup_news (by k_asm) (by k_mem))); (case z9hp1 => k_dflt ((first | exact got_base (by k_asm) (by assumption) | exact got_news (by k_asm) (by k_mem)))); (case z9U => k_dflt k_updF); (case z9hp2 => k_dflt ((first | exact ⟨_, got_news (by k_asm) (by k_mem), rfl, _, rfl⟩ | exact stays_list (Fr.keep (by k_asm)) (by assumption)))); (case z9hdp => ((try dsimp only [top]); omega)); (case z9hun => ((try dsimp only [top]); omega)); (case z9a => omega); (case z9b => omega); (case z9hx => k_ne); (case z9hl => k_ne); (case z9hs => k_ne); (case z9hi => with_reducible assumption);(case z9h4 => omega); k_whole; (k_dflt (rintro z9v' z9new' z9h' z9tk' z9F' z9N' z9hnew' z9st' z9hpost'; refine (let z9G' : Prop := _; (?_ : z9G')); obtain ⟨z9t', z9e', z9ho'⟩ := z9hpost')); subst z9e'; (k_dflt obtain ⟨z9l', z9vs', z9n', z9hm', z9hm2', z9hi', z9hne'⟩ := z9ho'); (replace z9N' := (z9hnew' _ z9hm2' z9hne').news (z9N' _ z9hm')); (have z9hne2' := (z9hnew' _ z9hm2' z9hne').ne); (try dsimp only [AllNe] at z9hne2'); (try dsimp only at z9N'); clear z9hnew' z9hm' z9hm2' z9st'; (try k_unmd); (try k_unfold); (try dsimp only); (try k_fold))))
  trivial

theorem word86 : True := by
  (k_with "w:call ref" => row_timed "z" ((k_here; (with_reducible show wpAny _ _ (call (Value.ref 218) _) _ _ _); (k_dflt (refine' does_use1 (drep_at ?z9a ?z9b ?z9hx ?z9hl ?z9hs ?z9hi ?z9h0 ?z9h1i ?z9h4) ?z9cx ?z9F ?z9N ?z9U (And.intro (And.intro ?z9hp1 ?z9hp2) ?z9hp3) ?z9hdp ?z9hun ?_)); (case z9cx => k_dflt k_asm); (case z9F => k_dflt k_asm); (case z9N => k_dflt k_asm); (case z9hp3 => k_dflt (exact tup_news (by k_asm) (by k_mem))); (case z9hp1 => k_dflt ((first | exact got_base (by k_asm) (by assumption) | exact got_news (by k_asm) (by k_mem)))); (case z9U => k_dflt k_updF); (case z9hp2 => k_dflt ((first | exact ⟨_, got_news (by k_asm) (by k_mem), rfl, _, rfl⟩ | exact stays_list (Fr.keep (by k_asm)) (by assumption)))); (case z9hdp => ((try dsimp only [top]); omega)); (case z9hun => ((try dsimp only [top]); omega)); (case z9a => omega); (case z9b => omega); (case z9hx => k_ne); (case z9hl => k_ne); (case z9hs => k_ne); (case z9hi => with_reducible assumption);(case z9h0 => omega); (case z9h1i => omega); (case z9h4 => omega); k_whole; (k_dflt (rintro z9v' z9new' z9h' z9tk' z9F' z9N' z9hnew' z9st' z9hpost'; refine (let z9G' : Prop := _; (?_ : z9G')); obtain ⟨z9t', z9e', z9ho'⟩ := z9hpost')); subst z9e'; (k_dflt obtain ⟨z9l', z9vs', z9n', z9hm', z9hm2', z9hi', z9hne'⟩ := z9ho'); (replace z9N' := (z9hnew' _ z9hm2' z9hne').news (z9N' _ z9hm')); (have z9hne2' := (z9hnew' _ z9hm2' z9hne').ne); (try dsimp only [AllNe] at z9hne2'); (try dsimp only at z9N'); clear z9hnew' z9hm' z9hm2' z9st'; (try k_unmd); (try k_unfold); (try dsimp only); (try k_fold))))
  trivial

theorem word87 : True := by
  (k_with "w:compareOp NotEq ref ref" => row_timed "z" ((k_here; (with_reducible rename AddMark => z9hMk9); (with_reducible show wpAny _ _ (compareOp CmpOp.NotEq (Value.ref _) (Value.ref _)) _ _ _); (k_dflt (refine' ne_intsK ?z9k1 ?z9k2 ?z9k3 ?z9k4 ?z9k5 ?_)); (case z9k1 => k_dflt (first | exact ⟨_, got_news (by k_asm) (by k_mem), rfl, _, rfl⟩ | exact stays_list (Fr.keep (by k_asm)) (by assumption))); (case z9k2 => k_dflt (first | with_reducible assumption | exact snoc_ints (ints_rep _ _ _) _ _)); (case z9k3 => k_dflt (first | exact ⟨_, got_news (by k_asm) (by k_mem), rfl, _, rfl⟩ | exact stays_list (Fr.keep (by k_asm)) (by assumption))); (case z9k4 => k_dflt (first | with_reducible assumption | exact snoc_ints (ints_rep _ _ _) _ _)); (case z9k5 => ((try dsimp only [top, Around.deeper]); omega)); k_whole)))
  trivial

set_option maxHeartbeats 8000000 in
theorem reps_does (w : World) (bg ot r lt : Addr) (bs os : List Int) (bvs ovs : List Value) (nb : Nat) (run : List (Int × Int)) (lates : List (List Int)) (hb : IntsAre bvs bs) (ho : IntsAre ovs os) (hb4 : bs.length = 4) (ho4 : os.length = 4) (h2 : run.length < 100) (h3 : lates.length = run.length + 1) (h4 : ∀ l ∈ lates, l.length < 900) (hrun : ∀ p ∈ run, (p.1 = 1 ∨ p.1 = 2) ∧ 1 ≤ p.2) (hrw : ∀ i, i ≤ run.length → (rowsF bs lates 4)[i]? = some (pairS 4 bs os run i).1.1) (hsp : (spS bs (plainR run run.length) (plainR run run.length).length).2 = stepsR (rowsF bs lates 4) run run.length) (hhk : HeardOk bs os run (rowsF bs lates 4)) (hht : ∀ i, i < run.length → (heardF bs os run (rowsF bs lates 4))[i]? = some (tell (run.getD i (0, 0)).2 (pairS 4 bs os run i).1.1 (pairS 4 bs os run i).1.2)) (hhl : (heardF bs os run (rowsF bs lates 4)).length = run.length) :
    Does w 288 [.ref bg, .ref ot, .ref r, .ref lt] 24 [] (fun h => (h.get? bg = some (listOf bvs.toArray nb) ∧ h.IsList ot ovs.toArray) ∧ LstAt PairAt h r run ∧ LstAt IntsAt h lt lates) (fun v news _ => v = .bool true) := by
  refine' does_ofC [(Str.ofString "begun", .ref bg), (Str.ofString "other", .ref ot), (Str.ofString "run", .ref r), (Str.ofString "lates", .ref lt)] ?ho ?hcd ?hbind ?kB ?kD ?c2 ?c3 ?c4 ?cP ?body
  case ho => k_is
  case hcd => k_is
  case hbind => exact fun _ _ => BindsTo.of_eq rfl
  case kB => exact rfl
  case kD => decide +kernel
  case c2 => exact rfl
  case c3 => exact rfl
  case c4 => exact rfl
  case cP => exact fun _ _ g h => ⟨⟨g _ _ h.1.1 (by simp), is_list_but g h.1.2 (by simp)⟩, h.2.1.keeps (fun _ _ _ _ k x => x.keeps k) (stays_of_gsub g), h.2.2.keeps (fun _ _ _ _ k x => x.keeps k) (stays_of_gsub g)⟩
  case body =>
    intro mg mb p loose mean base env outer dp un gd s g' L' h' tk0 cells' cx hdp hun hp B' X' T' G' F' N' Y' l1
    (try k_lt l1)
    k_cells Y'
    (try simp only [List.cons_append, List.nil_append] at N')
    (try dsimp only)
    rename_i o0 o1 o2 d0 d1 d2
    obtain ⟨⟨hbg, hol⟩, ⟨rvs, hrl, hra⟩, ⟨lvs, hll, hla⟩⟩ := hp
    have hbl : g'.IsList bg bvs.toArray := ⟨_, hbg, rfl, _, rfl⟩
    have hlen := hra.1
    have hlen2 := hla.1
    try k_unmd
    k_fold
    k_steps
    refine stop_on ?_
    refine' src_list (items := lvs.toArray) rfl ?lst (fun it s₂ S => comp_of (nx₀ := [(L' + 1 + 1 + 1, o0), (L' + 1 + 1, o1), (L' + 1, o2)]) (rowsJC [(L' + 1 + 1 + 1, o0), (L' + 1 + 1, o1), (L' + 1, o2)] bs lates 4) S ?hsz (by assumption) (news_sub (by assumption) ?sub) ?h0 ?hrd ?turn ?done)
    case lst => exact stays_list (Fr.keep (by k_asm)) (by assumption)
    case sub => k_allIn
    case h0 => exact ⟨[], rfl, off_nil _, Are.nil⟩
    case hsz => (rw [sizeLine_eq]; simp only [List.size_toArray]; omega)
    case hrd => exact List.forall_mem_cons.mpr ⟨.inl (by obtain ⟨o, e, _⟩ := hll; exact ⟨o, e⟩), List.forall_mem_nil _⟩
    case turn =>
      intro i v ys nx h tk C D oC cnt own mC hi hP hys h1o h2o hCD h3o hJ F₁ N₁ nsC
      refine (let G : Prop := _; (?_ : G))
      obtain ⟨rnx, rfl, hO, hJ⟩ := hJ
      simp only [List.getElem?_toArray] at hP
      have hil : i < lates.length := by have := (List.getElem?_eq_some_iff.mp hP).1; omega
      obtain ⟨v2, hv2, a2, lv2, e6, ht2, hl2⟩ := hla.at (List.getElem?_eq_getElem hil)
      have e8 : v = .ref a2 := by rw [hv2] at hP; cases hP; exact e6
      subst e8
      have hrow := h4 _ (List.getElem_mem hil)
      dsimp only [List.cons_append, List.nil_append] at N₁
      k_unmd
      k_unfold
      try k_unmd
      k_fold
      k_steps
      (try dsimp only); (try k_unfold)
      exact rows_endC (cs := [(L' + 1 + 1 + 1, o0), (L' + 1 + 1, o1), (L' + 1, o2)]) (by assumption) (by assumption) (by assumption) h1o h2o h3o hO hJ (List.getElem?_eq_getElem hil) (by assumption)
    case done =>
      intro D ys cnt nx h' tk F₁ N₁ hoff hys hJ
      refine (let G : Prop := _; (?_ : G))
      obtain ⟨rnx, rfl, hO, hJ⟩ := hJ
      (try dsimp only [List.cons_append, List.nil_append, List.map_cons, List.map_nil] at hoff hO); (try dsimp only [List.cons_append, List.nil_append, List.map_cons, List.map_nil] at N₁)
      have nD0 := off_far hoff (.head _)
      have nD1 := off_far hoff (.tail _ (.head _))
      have nD2 := off_far hoff (.tail _ (.tail _ (.head _)))
      have hR : LstIn rnx ys (rowsF bs lates 4) := by
        have e : lates.take lvs.toArray.size = lates := List.take_of_length_le (by simp only [List.size_toArray]; omega)
        rw [e] at hJ; exact hJ
      clear hJ
      have hrl4 : (rowsF bs lates 4).length = run.length + 1 := by rw [rowsF_len]; omega
      have hr4 : ∀ i, i ≤ run.length → ∃ row, (rowsF bs lates 4)[i]? = some row ∧ row.length < 5 := fun i hi => ⟨_, rowsF_at (by omega), by unfold rowOf; rw [List.length_take]; omega⟩
      have hr3 : ∀ row ∈ rowsF bs lates 4, row.length < 1000 := rowsF_short _ _ (by omega)
      k_unmd
      k_unfold
      generalize rowsF bs lates 4 = rows at *
      k_steps
      refine stop_on ?_
      (try dsimp only)
      refine gen_toks (fun tk' => ?_)
      refine rep_norm run (c3 := (L' + 1 + 1 + 1, o0)) (c2 := (L' + 1 + 1, o1)) (c1 := (L' + 1, o2)) (by assumption) (by assumption) rfl rfl rfl rfl rfl rfl hR (by assumption) ?q2 hoff ?off (fun pa m nx y1 F₃ N₃ J₃ => ?loop)
      case q2 => omega
      case off =>
        intro p hp b hb
        rcases List.mem_cons.mp hp with rfl | hp
        · revert b
          refine far_cons ?_ (far_cons ?_ (far_cons ?_ (far_nil _))) <;> (dsimp only; first | (with_reducible first | exact ne_gt (And.left (by assumption)) | exact ne_gt (And.left (And.right (by assumption))) | exact ne_gt (And.left (And.right (And.right (by assumption)))) | exact ne_gt (And.left (And.right (And.right (And.right (by assumption))))) | exact ne_gt (And.left (And.right (And.right (And.right (And.right (by assumption)))))) | exact ne_gt (And.left (And.right (And.right (And.right (And.right (And.right (by assumption))))))) | exact ne_gt (And.left (And.right (And.right (And.right (And.right (And.right (And.right (by assumption))))))))) | exact neN (by omega))
        · rcases List.mem_cons.mp hp with rfl | hp
          · revert b
            refine far_cons ?_ (far_cons ?_ (far_cons ?_ (far_nil _))) <;> (dsimp only; first | (with_reducible first | exact ne_gt (And.left (by assumption)) | exact ne_gt (And.left (And.right (by assumption))) | exact ne_gt (And.left (And.right (And.right (by assumption)))) | exact ne_gt (And.left (And.right (And.right (And.right (by assumption))))) | exact ne_gt (And.left (And.right (And.right (And.right (And.right (by assumption)))))) | exact ne_gt (And.left (And.right (And.right (And.right (And.right (And.right (by assumption))))))) | exact ne_gt (And.left (And.right (And.right (And.right (And.right (And.right (And.right (by assumption))))))))) | exact neN (by omega))
          · exact hO p hp b hb
      case loop =>
        repeat (rename (@LT.lt Nat _ _ _ ∧ _) => hz; clear hz)
        refine' src_enum (items := rvs.toArray) rfl ?lst (fun it s₂ S => loop_of (repJ g' D r ot pa (L' + 1 + 1 + 1, o0) (L' + 1 + 1, o1) (L' + 1, o2) ys cnt rows run) S F₃ N₃ J₃ ?hrd ?turn ?done)
        case lst => exact stays_list (Fr.keep (by k_asm)) (by assumption)
        case hrd => exact List.forall_mem_cons.mpr ⟨.inl (by obtain ⟨o, e, _⟩ := hrl; exact ⟨o, e⟩), List.forall_mem_nil _⟩
        case turn =>
          intro i v m₁ nx h tk own hi hP hoff hJ F₁ N₁
          refine (let G : Prop := _; (?_ : G))
          obtain ⟨T, vals, rfl, ⟨t0, x0, hx0, rfl⟩, hT⟩ := hP
          refine ex9 hJ ?_
          intro pl pvs pn st svs sn avs an tnx z9p
          clear hJ
          refine and15 z9p ?_
          clear z9p
          intro e1 e2 e3 e4 e5 e6 z9e6 ht m1 m2 m3 hRt hpv hsv hav
          subst z9e6
          simp only [List.getElem?_toArray] at hx0
          have hir : i < run.length := by have := (List.getElem?_eq_some_iff.mp hx0).1; omega
          obtain ⟨v1', hv1, a1, u1, u2, e7, ht1⟩ := hra.at (List.getElem?_eq_getElem hir)
          have e8 : x0 = .ref a1 := by rw [hv1] at hx0; cases hx0; exact e7
          subst e8
          obtain ⟨row, hrow, hrow5⟩ := hr4 i (by omega)
          obtain ⟨x3, hx3, a3, rvs3, n3, e9, hm3, hi3⟩ := Are.at hRt hrow
          subst e9
          have hx3' : ys[((i : Int)).toNat]? = some (.ref a3) := hx3
          obtain ⟨hf1, hf2⟩ := hrun _ (List.getElem_mem hir)
          have hgd := getD_at hir
          k_unmd
          k_unfold
          generalize hrp : run[i] = pr at *
          obtain ⟨ahead, far⟩ := pr
          dsimp only at hf1 hf2 ht1
          obtain ⟨own3, h3o⟩ : ∃ o, o = tnx ++ own := ⟨_, rfl⟩
          (try dsimp only [List.map_cons, List.cons_append] at hoff); (try dsimp only [List.map_cons, List.cons_append] at N₁)
          have O₃ : OwnOff own3 [pa, L' + 1 + 1 + 1, L' + 1 + 1, L' + 1] := by
            subst h3o
            exact off_app (a := [pa, L' + 1 + 1 + 1, L' + 1 + 1, L' + 1]) ht hoff
          have z1 := off_far ht m1
          have z2 := off_far ht m2
          have z3 := off_far ht m3
          have z4 := off_far ht hm3
          have N₂ : News g' L' h ((pa, listOf (List.toArray avs) an) :: (L' + 1 + 1 + 1, o0) :: (L' + 1 + 1, o1) :: (L' + 1, o2) :: (pl, listOf (List.toArray pvs) pn) :: (st, listOf (List.toArray svs) sn) :: (D, listOf (List.toArray ys) cnt) :: (a3, listOf (List.toArray rvs3) n3) :: own3) := by
            subst h3o
            exact news_sub N₁ (by k_extra "sub")
          have F₂ := fr_lit [(Str.ofString "plain", .ref pl), (Str.ofString "steps", .ref st), (Str.ofString "parts", .ref pa), (Str.ofString "rows", .ref D), (Str.ofString "run", .ref r), (Str.ofString "other", .ref ot)] (List.forall_mem_cons.mpr ⟨e1, List.forall_mem_cons.mpr ⟨e2, List.forall_mem_cons.mpr ⟨e3, List.forall_mem_cons.mpr ⟨e4, List.forall_mem_cons.mpr ⟨e5, List.forall_mem_cons.mpr ⟨e6, List.forall_mem_nil _⟩⟩⟩⟩⟩⟩) F₁
          clear F₁ N₁ hbg hol hbl hll hla
          dsimp only [kstB] at F₂
          have hT' : IsTup h T [Value.int (i : Int) t0, Value.ref a1].toArray := isTup_of hT
          have hi30 : i < 100 := by omega
          have hMk : AddMark := trivial
          have hal : avs.length = i := hav.1.trans (partsR_len rows run i)
          have hpl : pvs.length ≤ 3 * i := hpv.1 ▸ plainR_le hrun i (by omega)
          have hsl : svs.length ≤ 3 * i := hsv.1 ▸ stepsR_le hrun i (by omega)
          obtain ⟨k, hk, hk3⟩ : ∃ k : Nat, ahead = (k : Int) ∧ k < 3 := ⟨ahead.toNat, by omega, by omega⟩
          by_cases hfr : far ∈ row
          · have hany : (row.any fun y => y == far) = true := any_mem.mpr hfr
            have hsp : stpF row i far = .rep (row.idxOf far : Nat) (2 + (i : Int)) := if_pos hfr
            try k_unmd
            k_fold
            k_steps
            (try dsimp only)
            refine rep_end [_, _, _, _, _, _, _, _, _, _, _, _, _, _] (by assumption) (by assumption) rfl rfl rfl rfl rfl rfl h3o hoff ht ?_ (by k_mem) (by k_mem) (by k_mem) (by k_mem) (by k_mem) (by k_mem) (by k_mem) (by rw [hsp]; exact ⟨_, _, _, rfl⟩) hgd hk hrow m3 hRt hpv hsv hav
            repeat (refine List.forall_mem_cons.mpr ⟨?_, ?_⟩; (dsimp only; first | assumption | exact And.right (by assumption) | exact And.right (And.right (by assumption)) | exact And.right (And.right (And.right (by assumption))) | exact And.right (And.right (And.right (And.right (by assumption)))) | exact And.right (And.right (And.right (And.right (And.right (by assumption))))) | exact And.right (And.right (And.right (And.right (And.right (And.right (by assumption)))))) | exact And.right (And.right (And.right (And.right (And.right (And.right (And.right (by assumption))))))) | exact And.right (And.right (And.right (And.right (And.right (And.right (And.right (And.right (by assumption)))))))) | exact And.right (And.right (And.right (And.right (And.right (And.right (And.right (And.right (And.right (by assumption))))))))) | exact And.right (And.right (And.right (And.right (And.right (And.right (And.right (And.right (And.right (And.right (by assumption)))))))))) | exact And.right (And.right (And.right (And.right (And.right (And.right (And.right (And.right (And.right (And.right (And.right (by assumption))))))))))) | exact And.right (And.right (And.right (And.right (And.right (And.right (And.right (And.right (And.right (And.right (And.right (And.right (by assumption)))))))))))) | exact And.right (And.right (And.right (And.right (And.right (And.right (And.right (And.right (And.right (And.right (And.right (And.right (And.right (by assumption))))))))))))) | exact And.right (And.right (And.right (And.right (And.right (And.right (And.right (And.right (And.right (And.right (And.right (And.right (And.right (And.right (by assumption))))))))))))))))
            exact List.forall_mem_nil _
          · have hany : (row.any fun y => y == far) = false := any_not.mpr hfr
            have hsp : stpF row i far = .mat far (2 + (i : Int)) := if_neg hfr
            try k_unmd
            k_fold
            k_steps
            (try dsimp only)
            refine rep_end [_, _, _, _, _, _, _, _, _, _, _, _, _, _] (by assumption) (by assumption) rfl rfl rfl rfl rfl rfl h3o hoff ht ?_ (by k_mem) (by k_mem) (by k_mem) (by k_mem) (by k_mem) (by k_mem) (by k_mem) (by rw [hsp]; exact ⟨_, _, _, rfl⟩) hgd hk hrow m3 hRt hpv hsv hav
            repeat (refine List.forall_mem_cons.mpr ⟨?_, ?_⟩; (dsimp only; first | assumption | exact And.right (by assumption) | exact And.right (And.right (by assumption)) | exact And.right (And.right (And.right (by assumption))) | exact And.right (And.right (And.right (And.right (by assumption)))) | exact And.right (And.right (And.right (And.right (And.right (by assumption))))) | exact And.right (And.right (And.right (And.right (And.right (And.right (by assumption)))))) | exact And.right (And.right (And.right (And.right (And.right (And.right (And.right (by assumption))))))) | exact And.right (And.right (And.right (And.right (And.right (And.right (And.right (And.right (by assumption)))))))) | exact And.right (And.right (And.right (And.right (And.right (And.right (And.right (And.right (And.right (by assumption))))))))) | exact And.right (And.right (And.right (And.right (And.right (And.right (And.right (And.right (And.right (And.right (by assumption)))))))))) | exact And.right (And.right (And.right (And.right (And.right (And.right (And.right (And.right (And.right (And.right (And.right (by assumption))))))))))) | exact And.right (And.right (And.right (And.right (And.right (And.right (And.right (And.right (And.right (And.right (And.right (And.right (by assumption)))))))))))) | exact And.right (And.right (And.right (And.right (And.right (And.right (And.right (And.right (And.right (And.right (And.right (And.right (And.right (by assumption))))))))))))) | exact And.right (And.right (And.right (And.right (And.right (And.right (And.right (And.right (And.right (And.right (And.right (And.right (And.right (And.right (by assumption))))))))))))))))
            exact List.forall_mem_nil _
        case done =>
          intro h' tk m' nx hJ F₁ N₁
          refine (let G : Prop := _; (?_ : G))
          have hsz : rvs.toArray.size = run.length := by simp only [List.size_toArray]; omega
          rw [hsz] at hJ
          refine ex9 hJ ?_
          intro pl pvs pn st svs sn avs an tnx z9p
          clear hJ
          refine and15 z9p ?_
          clear z9p
          intro e1 e2 e3 e4 e5 e6 z9e6 ht m1 m2 m3 hRt hpv hsv hav
          subst z9e6
          have z1 := off_far ht m1
          have z2 := off_far ht m2
          have z3 := off_far ht m3
          have N₂ : News g' L' h' ((pa, listOf (List.toArray avs) an) :: (L' + 1 + 1 + 1, o0) :: (L' + 1 + 1, o1) :: (L' + 1, o2) :: (pl, listOf (List.toArray pvs) pn) :: (st, listOf (List.toArray svs) sn) :: (D, listOf (List.toArray ys) cnt) :: tnx) := by
            exact news_sub N₁ (by k_extra "sub")
          have F₂ := fr_lit [(Str.ofString "plain", .ref pl), (Str.ofString "steps", .ref st), (Str.ofString "parts", .ref pa), (Str.ofString "rows", .ref D), (Str.ofString "run", .ref r), (Str.ofString "other", .ref ot)] (List.forall_mem_cons.mpr ⟨e1, List.forall_mem_cons.mpr ⟨e2, List.forall_mem_cons.mpr ⟨e3, List.forall_mem_cons.mpr ⟨e4, List.forall_mem_cons.mpr ⟨e5, List.forall_mem_cons.mpr ⟨e6, List.forall_mem_nil _⟩⟩⟩⟩⟩⟩) F₁
          clear F₁ N₁ e1 e2 e3 e4 e5 e6 m1 m2 m3 hR
          dsimp only [kstB] at F₂
          have hL1 : LstAt PairAt g' r run := ⟨rvs, hrl, hra⟩
          have hple := plainR_le hrun run.length (Nat.le_refl _)
          have hpok := plainR_ok hrun h2 run.length (Nat.le_refl _)
          have hvl := hb.length
          have hol4 := ho.length
          k_unmd
          k_unfold
          k_steps
          refine stop_on ?_
          (try dsimp only)
          refine gen_toks (fun tk' => ?_)
          refine rep2_norm run (c1 := (L' + 1, o2)) (by assumption) (by assumption) rfl rfl rfl (by assumption) (by assumption) (by assumption) (by assumption) ?q6 ?q7 hb ho (by assumption) (by assumption) (by assumption) (fun ocr ocw hvs hn wd wx rd rx hl hw hr kw kr m nx dw dr hhv y2 y3 y4 F₄ N₄ J₄ => ?loop2)
          case q6 => exact ⟨by omega, by omega⟩
          case q7 => exact ⟨neN (by omega), neN (by omega)⟩
          case loop2 =>
            repeat (rename (@LT.lt Nat _ _ _ ∧ _) => hz; clear hz)
            repeat (rename (@Ne Nat _ _ ∧ _) => hz; clear hz)
            repeat (rename LstAt StpAt _ _ _ => hz; clear hz)
            have hal : avs.length = run.length := hav.1.trans (partsR_len rows run _)
            refine' src_enum (items := avs.toArray) rfl ?lst2 (fun it s₂ S => loop_of (rep2J D r pa hl wd wx rd rx (L' + 1 + 1 + 1, ocr) (L' + 1 + 1, ocw) (listOf (List.toArray avs) an) (listOf (List.toArray ys) cnt) (listOf (List.toArray hvs) hn) hw hr kw kr tnx bs os run) S F₄ N₄ J₄ ?hrd2 ?turn2 ?done2)
            case lst2 => exact ⟨_, (N₄ (pa, listOf (List.toArray avs) an) (by obtain ⟨_, _, _, _, _, _, _, _, _, e, _⟩ := J₄; rw [e]; simp)).1, rfl, an, rfl⟩
            case hrd2 => exact List.forall_mem_cons.mpr ⟨.inr ⟨listOf (List.toArray avs) an, fun j m nx h => by obtain ⟨_, _, _, _, _, _, _, _, _, e, _⟩ := h; rw [e]; simp⟩, List.forall_mem_nil _⟩
            case turn2 =>
              intro i v m₁ nx h tk own hi hP hoff hJp F₁ N₁
              refine (let G : Prop := _; (?_ : G))
              obtain ⟨T, vals, rfl, ⟨t0, x0, hx0, rfl⟩, hT⟩ := hP
              refine ex6 hJp ?_
              intro wl wvs wn rl rvs2 rn z9p
              refine and8 z9p ?_
              clear z9p
              intro e1 e2 e3 z9e3 y5 y6 hwv hrv
              subst z9e3
              simp only [List.getElem?_toArray] at hx0
              have hir : i < run.length := by have := (List.getElem?_eq_some_iff.mp hx0).1; omega
              obtain ⟨x0', hx0', pt, xs, xn, e7, mpt, hxs⟩ := hav.at (partsR_at rows run run.length i hir)
              have e8 : x0 = .ref pt := by rw [hx0] at hx0'; cases hx0'; exact e7
              subst e8
              obtain ⟨v1', hv1, a1, u1, u2, e9, ht1⟩ := hra.at (List.getElem?_eq_getElem hir)
              subst e9
              have hv1' : rvs[((i : Int)).toNat]? = some (.ref a1) := hv1
              have hgd := getD_at hir
              obtain ⟨hf1, hf2⟩ := hrun _ (List.getElem_mem hir)
              have hrow := hrw i (by omega)
              have hrow' := hrw (i + 1) (by omega)
              have hhi := hht i hir
              obtain ⟨hW4, hR4⟩ := pairS_len hb4 ho4 run i (by omega)
              have hps := pairS_succ (n := 4) (b := bs) (o := os) hir
              rw [hps] at hrow'
              k_unmd
              k_unfold
              generalize pairS 4 bs os run i = S0 at *
              obtain ⟨⟨W, R⟩, tol⟩ := S0
              generalize run[i] = pr at *
              obtain ⟨ahead, far⟩ := pr
              rw [hgd] at hhi
              simp only [pairStep] at hf1 hf2 ht1 hrow hrow' hhi hW4 hR4 hps hwv hrv
              obtain ⟨k, hk, hk3⟩ : ∃ k : Nat, ahead = (k : Int) ∧ k < 3 := ⟨ahead.toNat, by omega, by omega⟩
              subst hk
              rw [part_at hgd hrow] at hxs
              have hxl : xs.length = k + 1 := by rw [hxs.1]; simp
              obtain ⟨x4, hx4, a4, rvs4, n4, e10, hm4, hi4⟩ := Are.at hRt hrow'
              subst e10
              have hx4' : ys[((i : Int) + 1).toNat]? = some (.ref a4) := hx4
              obtain ⟨own3, h3o'⟩ : ∃ o, o = tnx ++ own := ⟨_, rfl⟩
              (try dsimp only [List.map_cons, List.cons_append] at hoff); (try dsimp only [List.map_cons, List.cons_append] at N₁)
              have O₃ : OwnOff own3 [wd, rd] := by
                subst h3o'
                exact own_app y4 (own_two hoff (.head _) (.tail _ (.tail _ (.head _))))
              have yo1 : OwnOff own [wl] := own_one hoff (.tail _ (.head _))
              have yo2 : OwnOff own [rl] := own_one hoff (.tail _ (.tail _ (.tail _ (.head _))))
              have y7 := off_far y4 hm4
              have y8 := off_far y4 mpt
              have N₂ : News g' L' h ((wd, rowD hw kw wl) :: (wl, listOf (List.toArray wvs) wn) :: (rd, rowD hr kr rl) :: (rl, listOf (List.toArray rvs2) rn) :: (wx, instObj 184 wd) :: (rx, instObj 184 rd) :: (pa, listOf (List.toArray avs) an) :: (L' + 1 + 1 + 1, ocr) :: (L' + 1 + 1, ocw) :: (hl, listOf (List.toArray hvs) hn) :: (D, listOf (List.toArray ys) cnt) :: (a4, listOf (List.toArray rvs4) n4) :: (pt, listOf (List.toArray xs) xn) :: own3) := by
                subst h3o'
                exact news_sub N₁ (by k_extra "sub")
              have F₂ := fr_lit [(Str.ofString "rows", .ref D), (Str.ofString "run", .ref r), (Str.ofString "heard", .ref hl)] (List.forall_mem_cons.mpr ⟨e1, List.forall_mem_cons.mpr ⟨e2, List.forall_mem_cons.mpr ⟨e3, List.forall_mem_nil _⟩⟩⟩) F₁
              clear F₁ N₁ hJp
              have hJp : True := trivial
              dsimp only [kstB] at F₂
              have hT' : IsTup h T [Value.int (i : Int) t0, Value.ref pt].toArray := isTup_of hT
              have hi100 : i < 100 := by omega
              have hMk : AddMark := trivial
              try k_unmd
              k_fold
              k_steps
              refine stop_on ?_
              refine' src_list (items := List.toArray xs) rfl ?lst3 (fun it s₂ S => comp_of (nx₀ := (wd, rowD hw kw wl) :: (wl, listOf (List.toArray wvs) wn) :: ([(rd, rowD hr kr rl), (rl, listOf (List.toArray rvs2) rn), (wx, instObj 184 wd), (rx, instObj 184 rd), (pa, listOf (List.toArray avs) an), (L' + 1 + 1 + 1, ocr), (L' + 1 + 1, ocw), (hl, listOf (List.toArray hvs) hn), (D, listOf (List.toArray ys) cnt), (a4, listOf (List.toArray rvs4) n4), (pt, listOf (List.toArray xs) xn)] ++ own3)) (distJ wd hw kw [wd, rd] own ([(rd, rowD hr kr rl), (rl, listOf (List.toArray rvs2) rn), (wx, instObj 184 wd), (rx, instObj 184 rd), (pa, listOf (List.toArray avs) an), (L' + 1 + 1 + 1, ocr), (L' + 1 + 1, ocw), (hl, listOf (List.toArray hvs) hn), (D, listOf (List.toArray ys) cnt), (a4, listOf (List.toArray rvs4) n4), (pt, listOf (List.toArray xs) xn)] ++ own3) W (mvR 4 far W W) k (tell far W W)) S ?hsz3 (by assumption) (news_sub (by assumption) ?sub3) ?h03 ?hrd3 ?turn3 ?done3)
              case lst3 => exact ⟨_, got_news (by k_asm) (by k_mem), rfl, _, rfl⟩
              case sub3 => k_extra "sub"
              case hsz3 => (rw [sizeLine_eq]; simp only [List.size_toArray]; omega)
              case h03 => exact ⟨wl, _, _, W, [], rfl, y5, yo1, by assumption, IntsAre.nil, .inl ⟨Nat.zero_le _, rfl, rfl⟩⟩
              case hrd3 => exact List.forall_mem_cons.mpr ⟨.inr ⟨listOf (List.toArray xs) xn, fun j ys nx h => by obtain ⟨_, _, _, _, _, e, _⟩ := h; rw [e]; simp⟩, List.forall_mem_nil _⟩
              case turn3 =>
                intro j v ys5 nx h tk C Dc oC cnt5 own2 mC hj hP hys h1o h2o hCD h3o hJ F₅ N₅ nsC
                refine (let G : Prop := _; (?_ : G))
                refine ex5 hJ ?_
                intro l vs n ns5 zs z9p
                clear hJ
                refine and6 z9p ?_
                clear z9p
                intro z9e0 y9 yo hns hzs hal
                subst z9e0
                simp only [List.getElem?_toArray] at hP
                k_unmd
                k_unfold
                rcases hal with ⟨hjk, en, rfl⟩ | ⟨hjk, _, _⟩
                case inr => (exfalso; simp only [List.size_toArray] at hj; omega)
                rw [en] at hns
                clear en
                obtain ⟨own4, h4⟩ : ∃ o, o = own3 ++ own2 := ⟨_, rfl⟩
                have O₄ : OwnOff own4 [wd, rd] := by
                  subst h4
                  exact own_app O₃ (own_two h1o (.head _) (.tail _ (.tail _ (.head _))))
                have hown : ∀ p ∈ own, p ∈ own4 := fun p hp => by rw [h4, h3o']; exact List.mem_append_left _ (List.mem_append_right _ hp)
                have hnsl : (W).length = 4 := hW4
                obtain ⟨c1', c2'⟩ : Far C [wd, rd] ∧ Far Dc [wd, rd] := far_two h3o (.head _) (.tail _ (.tail _ (.head _)))
                by_cases hlk : j < k
                · obtain ⟨v', hv', a, vals, n5, e5, mem5, hv5⟩ := hxs.at (part_lit (s := stpF W i far) hlk)
                  obtain rfl : v = .ref a := by rw [hP] at hv'; cases hv'; exact e5
                  obtain ⟨t5, rfl⟩ := hv5
                  have y10 := off_far y4 mem5
                  have N₆ : News g' L' h ((C, oC) :: (Dc, listOf (List.toArray ys5) cnt5) :: (wd, rowD hw kw l) :: (l, listOf (List.toArray vs) n) :: ([(rd, rowD hr kr rl), (rl, listOf (List.toArray rvs2) rn), (wx, instObj 184 wd), (rx, instObj 184 rd), (pa, listOf (List.toArray avs) an), (L' + 1 + 1 + 1, ocr), (L' + 1 + 1, ocw), (hl, listOf (List.toArray hvs) hn), (D, listOf (List.toArray ys) cnt), (a4, listOf (List.toArray rvs4) n4), (pt, listOf (List.toArray xs) xn)] ++ (a, tupO [Value.str (Str.ofString "lit") t5] n5) :: own4)) := by
                    subst h4
                    subst h3o'
                    exact news_sub N₅ (by k_extra "sub")
                  clear N₅ hJp hxs
                  dsimp only [List.cons_append, List.nil_append, tupO] at N₆
                  try k_unmd
                  k_fold
                  k_steps
                  (try dsimp only)
                  exact dist_lit ([(rd, rowD hr kr rl), (rl, listOf (List.toArray rvs2) rn), (wx, instObj 184 wd), (rx, instObj 184 rd), (pa, listOf (List.toArray avs) an), (L' + 1 + 1 + 1, ocr), (L' + 1 + 1, ocw), (hl, listOf (List.toArray hvs) hn), (D, listOf (List.toArray ys) cnt), (a4, listOf (List.toArray rvs4) n4), (pt, listOf (List.toArray xs) xn)]) (by assumption) (by assumption) h4 h1o h3o ⟨l, vs, n, W, _, rfl, y9, yo, hns, snoc_ints hzs _ _, .inl ⟨by omega, rfl, by rw [List.replicate_succ']⟩⟩
                · obtain rfl : j = k := by omega
                  obtain ⟨v', hv', a, vals, n5, e5, mem5, hv5⟩ := hxs.at (part_step (k := j) (s := stpF W i far))
                  obtain rfl : v = .ref a := by rw [hP] at hv'; cases hv'; exact e5
                  have y10 := off_far y4 mem5
                  have N₆ : News g' L' h ((C, oC) :: (Dc, listOf (List.toArray ys5) cnt5) :: (wd, rowD hw kw l) :: (l, listOf (List.toArray vs) n) :: ([(rd, rowD hr kr rl), (rl, listOf (List.toArray rvs2) rn), (wx, instObj 184 wd), (rx, instObj 184 rd), (pa, listOf (List.toArray avs) an), (L' + 1 + 1 + 1, ocr), (L' + 1 + 1, ocw), (hl, listOf (List.toArray hvs) hn), (D, listOf (List.toArray ys) cnt), (a4, listOf (List.toArray rvs4) n4), (pt, listOf (List.toArray xs) xn)] ++ (a, tupO vals n5) :: own4)) := by
                    subst h4
                    subst h3o'
                    exact news_sub N₅ (by k_extra "sub")
                  clear N₅ hJp hxs
                  by_cases hfW : far ∈ W
                  · have hix := List.idxOf_lt_length_iff.mpr hfW
                    rw [show stpF W i far = .rep (W.idxOf far : Nat) (2 + (i : Int)) from if_pos hfW] at hv5
                    obtain ⟨t5, t6, t7, rfl⟩ := hv5
                    dsimp only [List.cons_append, List.nil_append, tupO] at N₆
                    try k_unmd
                    k_fold
                    k_steps
                    (try dsimp only)
                    refine dist_end ([(rd, rowD hr kr rl), (rl, listOf (List.toArray rvs2) rn), (wx, instObj 184 wd), (rx, instObj 184 rd), (pa, listOf (List.toArray avs) an), (L' + 1 + 1 + 1, ocr), (L' + 1 + 1, ocw), (hl, listOf (List.toArray hvs) hn), (D, listOf (List.toArray ys) cnt), (a4, listOf (List.toArray rvs4) n4), (pt, listOf (List.toArray xs) xn)]) (by assumption) (by assumption) (by assumption) h4 h1o h3o fun hall => ⟨_, _, _, _, _, rfl, List.forall_mem_cons.mpr ⟨fun e => hall _ (.tail _ (.tail _ (.head _))) e.symm, List.forall_mem_cons.mpr ⟨fun e => hall _ (.tail _ (.tail _ (.tail _ (.tail _ (.head _))))) e.symm, List.forall_mem_nil _⟩⟩, fun p hp b hb => by (rw [List.mem_singleton.mp hb]; exact hall p (.tail _ (.tail _ (.tail _ (.tail _ (List.mem_append_right _ (.tail _ (hown p hp)))))))), by assumption, snoc_ints hzs _ _, .inr ⟨rfl, (mvR_in hfW).symm, by rw [tell_in hfW]; rfl⟩⟩
                  · rw [show stpF W i far = .mat far (2 + (i : Int)) from if_neg hfW] at hv5
                    obtain ⟨t5, t6, t7, rfl⟩ := hv5
                    dsimp only [List.cons_append, List.nil_append, tupO] at N₆
                    try k_unmd
                    k_fold
                    k_steps
                    (try dsimp only)
                    refine dist_end ([(rd, rowD hr kr rl), (rl, listOf (List.toArray rvs2) rn), (wx, instObj 184 wd), (rx, instObj 184 rd), (pa, listOf (List.toArray avs) an), (L' + 1 + 1 + 1, ocr), (L' + 1 + 1, ocw), (hl, listOf (List.toArray hvs) hn), (D, listOf (List.toArray ys) cnt), (a4, listOf (List.toArray rvs4) n4), (pt, listOf (List.toArray xs) xn)]) (by assumption) (by assumption) (by assumption) h4 h1o h3o fun hall => ⟨_, _, _, _, _, rfl, List.forall_mem_cons.mpr ⟨fun e => hall _ (.tail _ (.tail _ (.head _))) e.symm, List.forall_mem_cons.mpr ⟨fun e => hall _ (.tail _ (.tail _ (.tail _ (.tail _ (.head _))))) e.symm, List.forall_mem_nil _⟩⟩, fun p hp b hb => by (rw [List.mem_singleton.mp hb]; exact hall p (.tail _ (.tail _ (.tail _ (.tail _ (List.mem_append_right _ (.tail _ (hown p hp)))))))), by assumption, snoc_ints hzs _ _, .inr ⟨rfl, (mvR_out hfW).symm, by rw [tell_out hfW]⟩⟩
              case done3 =>
                intro D3 ys3 cnt3 nx h' tk F₆ N₆ hoff3 hys3 hJ3
                refine (let G : Prop := _; (?_ : G))
                refine ex5 hJ3 ?_
                intro wl3 wvs3 wn3 ns3 zs3 z9p
                clear hJ3
                refine and6 z9p ?_
                clear z9p
                intro z9e0 y11 yo3 hns3 hzs3 hal3
                subst z9e0
                k_unmd
                k_unfold
                rcases hal3 with ⟨hjk, _, _⟩ | ⟨hjk, rfl, rfl⟩
                case inl => (exfalso; simp only [List.size_toArray] at hjk; omega)
                (try dsimp only [List.cons_append, List.nil_append] at hoff3); (try dsimp only [List.cons_append, List.nil_append] at N₆)
                have d1 : Far D3 [wd, rd] := far_at hoff3 (.head _) (.head _) (.tail _ (.tail _ (.head _)))
                k_steps
                refine stop_on ?_
                refine' src_list (items := List.toArray xs) rfl ?lst4 (fun it s₂ S => comp_of (nx₀ := (rd, rowD hr kr rl) :: (rl, listOf (List.toArray rvs2) rn) :: ([(D3, listOf (List.toArray ys3) cnt3), (wd, rowD hw kw wl3), (wl3, listOf (List.toArray wvs3) wn3), (wx, instObj 184 wd), (rx, instObj 184 rd), (pa, listOf (List.toArray avs) an), (L' + 1 + 1 + 1, ocr), (L' + 1 + 1, ocw), (hl, listOf (List.toArray hvs) hn), (D, listOf (List.toArray ys) cnt), (a4, listOf (List.toArray rvs4) n4), (pt, listOf (List.toArray xs) xn)] ++ own3)) (distJ rd hr kr [wd, rd] own ([(D3, listOf (List.toArray ys3) cnt3), (wd, rowD hw kw wl3), (wl3, listOf (List.toArray wvs3) wn3), (wx, instObj 184 wd), (rx, instObj 184 rd), (pa, listOf (List.toArray avs) an), (L' + 1 + 1 + 1, ocr), (L' + 1 + 1, ocw), (hl, listOf (List.toArray hvs) hn), (D, listOf (List.toArray ys) cnt), (a4, listOf (List.toArray rvs4) n4), (pt, listOf (List.toArray xs) xn)] ++ own3) R (mvR 4 far W R) k (tell far W R)) S ?hsz4 (by assumption) (news_sub (by assumption) ?sub4) ?h04 ?hrd4 ?turn4 ?done4)
                case lst4 => exact ⟨_, got_news (by k_asm) (by k_mem), rfl, _, rfl⟩
                case sub4 => k_extra "sub"
                case hsz4 => (rw [sizeLine_eq]; simp only [List.size_toArray]; omega)
                case h04 => exact ⟨rl, _, _, R, [], rfl, y6, yo2, by assumption, IntsAre.nil, .inl ⟨Nat.zero_le _, rfl, rfl⟩⟩
                case hrd4 => exact List.forall_mem_cons.mpr ⟨.inr ⟨listOf (List.toArray xs) xn, fun j ys nx h => by obtain ⟨_, _, _, _, _, e, _⟩ := h; rw [e]; simp⟩, List.forall_mem_nil _⟩
                case turn4 =>
                  intro j v ys5 nx h tk C Dc oC cnt5 own2 mC hj hP hys h1o h2o hCD h3o hJ F₅ N₅ nsC
                  refine (let G : Prop := _; (?_ : G))
                  refine ex5 hJ ?_
                  intro l vs n ns5 zs z9p
                  clear hJ
                  refine and6 z9p ?_
                  clear z9p
                  intro z9e0 y9 yo hns hzs hal
                  subst z9e0
                  simp only [List.getElem?_toArray] at hP
                  k_unmd
                  k_unfold
                  rcases hal with ⟨hjk, en, rfl⟩ | ⟨hjk, _, _⟩
                  case inr => (exfalso; simp only [List.size_toArray] at hj; omega)
                  rw [en] at hns
                  clear en
                  obtain ⟨own4, h4⟩ : ∃ o, o = own3 ++ own2 := ⟨_, rfl⟩
                  have O₄ : OwnOff own4 [wd, rd] := by
                    subst h4
                    exact own_app O₃ (own_two h1o (.tail _ (.tail _ (.tail _ (.head _)))) (.head _))
                  have hown : ∀ p ∈ own, p ∈ own4 := fun p hp => by rw [h4, h3o']; exact List.mem_append_left _ (List.mem_append_right _ hp)
                  have hnsl : (R).length = 4 := hR4
                  obtain ⟨c1', c2'⟩ : Far C [wd, rd] ∧ Far Dc [wd, rd] := far_two h3o (.tail _ (.tail _ (.tail _ (.head _)))) (.head _)
                  by_cases hlk : j < k
                  · obtain ⟨v', hv', a, vals, n5, e5, mem5, hv5⟩ := hxs.at (part_lit (s := stpF W i far) hlk)
                    obtain rfl : v = .ref a := by rw [hP] at hv'; cases hv'; exact e5
                    obtain ⟨t5, rfl⟩ := hv5
                    have y10 := off_far y4 mem5
                    have N₆ : News g' L' h ((C, oC) :: (Dc, listOf (List.toArray ys5) cnt5) :: (rd, rowD hr kr l) :: (l, listOf (List.toArray vs) n) :: ([(D3, listOf (List.toArray ys3) cnt3), (wd, rowD hw kw wl3), (wl3, listOf (List.toArray wvs3) wn3), (wx, instObj 184 wd), (rx, instObj 184 rd), (pa, listOf (List.toArray avs) an), (L' + 1 + 1 + 1, ocr), (L' + 1 + 1, ocw), (hl, listOf (List.toArray hvs) hn), (D, listOf (List.toArray ys) cnt), (a4, listOf (List.toArray rvs4) n4), (pt, listOf (List.toArray xs) xn)] ++ (a, tupO [Value.str (Str.ofString "lit") t5] n5) :: own4)) := by
                      subst h4
                      subst h3o'
                      exact news_sub N₅ (by k_extra "sub")
                    clear N₅ hJp hxs
                    dsimp only [List.cons_append, List.nil_append, tupO] at N₆
                    try k_unmd
                    k_fold
                    k_steps
                    (try dsimp only)
                    exact dist_lit ([(D3, listOf (List.toArray ys3) cnt3), (wd, rowD hw kw wl3), (wl3, listOf (List.toArray wvs3) wn3), (wx, instObj 184 wd), (rx, instObj 184 rd), (pa, listOf (List.toArray avs) an), (L' + 1 + 1 + 1, ocr), (L' + 1 + 1, ocw), (hl, listOf (List.toArray hvs) hn), (D, listOf (List.toArray ys) cnt), (a4, listOf (List.toArray rvs4) n4), (pt, listOf (List.toArray xs) xn)]) (by assumption) (by assumption) h4 h1o h3o ⟨l, vs, n, R, _, rfl, y9, yo, hns, snoc_ints hzs _ _, .inl ⟨by omega, rfl, by rw [List.replicate_succ']⟩⟩
                  · obtain rfl : j = k := by omega
                    obtain ⟨v', hv', a, vals, n5, e5, mem5, hv5⟩ := hxs.at (part_step (k := j) (s := stpF W i far))
                    obtain rfl : v = .ref a := by rw [hP] at hv'; cases hv'; exact e5
                    have y10 := off_far y4 mem5
                    have N₆ : News g' L' h ((C, oC) :: (Dc, listOf (List.toArray ys5) cnt5) :: (rd, rowD hr kr l) :: (l, listOf (List.toArray vs) n) :: ([(D3, listOf (List.toArray ys3) cnt3), (wd, rowD hw kw wl3), (wl3, listOf (List.toArray wvs3) wn3), (wx, instObj 184 wd), (rx, instObj 184 rd), (pa, listOf (List.toArray avs) an), (L' + 1 + 1 + 1, ocr), (L' + 1 + 1, ocw), (hl, listOf (List.toArray hvs) hn), (D, listOf (List.toArray ys) cnt), (a4, listOf (List.toArray rvs4) n4), (pt, listOf (List.toArray xs) xn)] ++ (a, tupO vals n5) :: own4)) := by
                      subst h4
                      subst h3o'
                      exact news_sub N₅ (by k_extra "sub")
                    clear N₅ hJp hxs
                    by_cases hfW : far ∈ W
                    · have hix := List.idxOf_lt_length_iff.mpr hfW
                      rw [show stpF W i far = .rep (W.idxOf far : Nat) (2 + (i : Int)) from if_pos hfW] at hv5
                      obtain ⟨t5, t6, t7, rfl⟩ := hv5
                      dsimp only [List.cons_append, List.nil_append, tupO] at N₆
                      try k_unmd
                      k_fold
                      k_steps
                      (try dsimp only)
                      refine dist_end ([(D3, listOf (List.toArray ys3) cnt3), (wd, rowD hw kw wl3), (wl3, listOf (List.toArray wvs3) wn3), (wx, instObj 184 wd), (rx, instObj 184 rd), (pa, listOf (List.toArray avs) an), (L' + 1 + 1 + 1, ocr), (L' + 1 + 1, ocw), (hl, listOf (List.toArray hvs) hn), (D, listOf (List.toArray ys) cnt), (a4, listOf (List.toArray rvs4) n4), (pt, listOf (List.toArray xs) xn)]) (by assumption) (by assumption) (by assumption) h4 h1o h3o fun hall => ⟨_, _, _, _, _, rfl, List.forall_mem_cons.mpr ⟨fun e => hall _ (.tail _ (.tail _ (.tail _ (.tail _ (.tail _ (.head _)))))) e.symm, List.forall_mem_cons.mpr ⟨fun e => hall _ (.tail _ (.tail _ (.head _))) e.symm, List.forall_mem_nil _⟩⟩, fun p hp b hb => by (rw [List.mem_singleton.mp hb]; exact hall p (.tail _ (.tail _ (.tail _ (.tail _ (List.mem_append_right _ (.tail _ (hown p hp)))))))), by assumption, snoc_ints hzs _ _, .inr ⟨rfl, (mvR_in hfW).symm, by rw [tell_in hfW]; rfl⟩⟩
                    · rw [show stpF W i far = .mat far (2 + (i : Int)) from if_neg hfW] at hv5
                      obtain ⟨t5, t6, t7, rfl⟩ := hv5
                      dsimp only [List.cons_append, List.nil_append, tupO] at N₆
                      try k_unmd
                      k_fold
                      k_steps
                      (try dsimp only)
                      refine dist_end ([(D3, listOf (List.toArray ys3) cnt3), (wd, rowD hw kw wl3), (wl3, listOf (List.toArray wvs3) wn3), (wx, instObj 184 wd), (rx, instObj 184 rd), (pa, listOf (List.toArray avs) an), (L' + 1 + 1 + 1, ocr), (L' + 1 + 1, ocw), (hl, listOf (List.toArray hvs) hn), (D, listOf (List.toArray ys) cnt), (a4, listOf (List.toArray rvs4) n4), (pt, listOf (List.toArray xs) xn)]) (by assumption) (by assumption) (by assumption) h4 h1o h3o fun hall => ⟨_, _, _, _, _, rfl, List.forall_mem_cons.mpr ⟨fun e => hall _ (.tail _ (.tail _ (.tail _ (.tail _ (.tail _ (.head _)))))) e.symm, List.forall_mem_cons.mpr ⟨fun e => hall _ (.tail _ (.tail _ (.head _))) e.symm, List.forall_mem_nil _⟩⟩, fun p hp b hb => by (rw [List.mem_singleton.mp hb]; exact hall p (.tail _ (.tail _ (.tail _ (.tail _ (List.mem_append_right _ (.tail _ (hown p hp)))))))), by assumption, snoc_ints hzs _ _, .inr ⟨rfl, (mvR_out hfW).symm, by rw [tell_out hfW]⟩⟩
                case done4 =>
                  intro D4 ys4 cnt4 nx h' tk F₇ N₇ hoff4 hys4 hJ4
                  refine (let G : Prop := _; (?_ : G))
                  refine ex5 hJ4 ?_
                  intro rl4 rvs4' rn4 ns4 zs4 z9p
                  clear hJ4
                  refine and6 z9p ?_
                  clear z9p
                  intro z9e0 y12 yo4 hns4 hzs4 hal4
                  subst z9e0
                  k_unmd
                  k_unfold
                  rcases hal4 with ⟨hjk, _, _⟩ | ⟨hjk, rfl, rfl⟩
                  case inl => (exfalso; simp only [List.size_toArray] at hjk; omega)
                  (try dsimp only [List.cons_append, List.nil_append] at hoff4); (try dsimp only [List.cons_append, List.nil_append] at N₇)
                  rw [tell_self] at hzs3
                  have hs1 : (!decide (List.replicate k (0 : Int) ++ [far] = List.replicate k 0 ++ [far])) = false := by simp
                  have hs2 : (!decide (List.replicate k (0 : Int) ++ [tell far W R] = List.replicate k 0 ++ [(heardF bs os run rows).getD ((i : Int)).toNat 0])) = false := by
                    have e : (heardF bs os run rows).getD ((i : Int)).toNat 0 = tell far W R := by simp [List.getD, hhi]
                    rw [e]; simp
                  have hs3 : (!decide (mvR 4 far W W = mvR 4 far W W)) = false := by simp
                  k_steps
                  (try dsimp only)
                  refine src_next (nx := (wd, rowD hw kw wl3) :: (wl3, listOf (List.toArray wvs3) wn3) :: (rd, rowD hr kr rl4) :: (rl4, listOf (List.toArray rvs4') rn4) :: (wx, instObj 184 wd) :: (rx, instObj 184 rd) :: (pa, listOf (List.toArray avs) an) :: (L' + 1 + 1 + 1, ocr) :: (L' + 1 + 1, ocw) :: (hl, listOf (List.toArray hvs) hn) :: (D, listOf (List.toArray ys) cnt) :: tnx) (by assumption) (by assumption)
                    ⟨wl3, wvs3, wn3, rl4, rvs4', rn4, rfl, rfl, rfl, rfl, y11, y12, by rw [hps]; exact hns3, by rw [hps]; exact hns4⟩ ?_ ?_ ?_
                  · exact own_cons (own_one hoff (.head _)) (own_cons yo3 (own_cons (own_one hoff (.tail _ (.tail _ (.head _)))) (own_cons yo4 (own_drop (own_drop (own_drop (own_drop hoff)))))))
                  · iterate 11 (refine List.forall_mem_cons.mpr ⟨by k_mem, ?_⟩)
                    intro p hp
                    have hp : p ∈ own3 := by rw [h3o']; first | exact List.mem_append_left _ hp | exact List.mem_append_right _ hp
                    k_ownIn
                  · intro p hp
                    have hp : p ∈ own3 := by rw [h3o']; first | exact List.mem_append_left _ hp | exact List.mem_append_right _ hp
                    k_ownIn
            case done2 =>
              intro h' tk m' nx hJ F₁ N₁
              refine (let G : Prop := _; (?_ : G))
              refine ex6 hJ ?_
              intro wl wvs wn rl rvs2 rn z9p
              clear hJ
              refine and8 z9p ?_
              clear z9p
              intro e1 e2 e3 z9e3 y5 y6 hwv hrv
              subst z9e3
              have F₂ := fr_lit [(Str.ofString "rows", .ref D), (Str.ofString "run", .ref r), (Str.ofString "heard", .ref hl)] (List.forall_mem_cons.mpr ⟨e1, List.forall_mem_cons.mpr ⟨e2, List.forall_mem_cons.mpr ⟨e3, List.forall_mem_nil _⟩⟩⟩) F₁
              clear F₁
              dsimp only [kstB] at F₂
              k_unmd
              k_unfold
              k_steps
              (try dsimp only); (try k_unfold)
              exact leaf_ret (by assumption) (by assumption) rfl

theorem fold_lit (k : Nat) (st : List Int × List Stp) : (List.replicate k ((0 : Int), (65 : Int))).foldl spStep st = (st.1, st.2 ++ List.replicate k .lit) := by
  induction k generalizing st with
  | zero => simp
  | succ k ih => rw [List.replicate_succ, List.foldl_cons, ih, sp_lit rfl, List.replicate_succ]; simp
theorem sp_one {W : List Int} {acc : List Stp} {i : Nat} {far : Int} : spStep (W, acc) (2 + (i : Int), far) = (mvR 4 far W W, acc ++ [stpF W i far]) := by
  have hn : ¬ (2 + (i : Int)) = 0 := by omega
  by_cases h : far ∈ W
  · rw [sp_rep hn h, mvR_in h]
    simp only [repU, Int.toNat_natCast, stpF, if_pos h]
  · rw [sp_mat hn h, mvR_out h]
    simp only [repP, stpF, if_neg h]
theorem sp_run {b o : List Int} {run : List (Int × Int)} {rows : List (List Int)} (hk : ∀ p ∈ run, (p.1 = 1 ∨ p.1 = 2) ∧ 1 ≤ p.2) (hr : ∀ i, i ≤ run.length → rows[i]? = some (pairS 4 b o run i).1.1) :
    ∀ i, i ≤ run.length → (plainR run i).foldl spStep (b, []) = ((pairS 4 b o run i).1.1, stepsR rows run i)
  | 0, _ => rfl
  | i + 1, hi => by
    have hir : i < run.length := by omega
    have hp := hk _ (List.getElem_mem hir)
    have hg := getD_at hir
    have ha : run[i].1 = ((run[i].1.toNat : Nat) : Int) := by omega
    have hpart : partF rows run i = List.replicate run[i].1.toNat .lit ++ [stpF (pairS 4 b o run i).1.1 i run[i].2] := part_at (by rw [hg]; exact Prod.ext ha rfl) (hr i (by omega))
    simp only [plainR, stepsR]
    rw [List.foldl_append, sp_run hk hr i (by omega), List.foldl_append, hg, fold_lit, List.foldl_cons, List.foldl_nil, sp_one, pairS_succ hir, hpart]
    simp only [pairStep, List.append_assoc]
theorem pairS_tell {b o : List Int} {run : List (Int × Int)} : ∀ n, n ≤ run.length → (pairS 4 b o run n).2.length = n ∧ ∀ i, i < n → (pairS 4 b o run n).2[i]? = some (tell (run.getD i (0, 0)).2 (pairS 4 b o run i).1.1 (pairS 4 b o run i).1.2)
  | 0, _ => ⟨rfl, fun i h => by omega⟩
  | n + 1, hn => by
    have hir : n < run.length := by omega
    obtain ⟨h1, h2⟩ := pairS_tell (b := b) (o := o) (run := run) n (by omega)
    rw [pairS_succ hir]
    refine ⟨by simp only [pairStep, List.length_append, h1]; rfl, fun i hi => ?_⟩
    simp only [pairStep]
    by_cases e : i < n
    · rw [List.getElem?_append_left (by omega)]; exact h2 i e
    · obtain rfl : i = n := by omega
      rw [List.getElem?_append_right (by omega), h1, getD_at hir]; simp
structure RepOk (bs os : List Int) (run : List (Int × Int)) (lates : List (List Int)) : Prop where
  hrw : ∀ i, i ≤ run.length → (rowsF bs lates 4)[i]? = some (pairS 4 bs os run i).1.1
  hsp : (spS bs (plainR run run.length) (plainR run run.length).length).2 = stepsR (rowsF bs lates 4) run run.length
  hhk : HeardOk bs os run (rowsF bs lates 4)
  hht : ∀ i, i < run.length → (heardF bs os run (rowsF bs lates 4))[i]? = some (tell (run.getD i (0, 0)).2 (pairS 4 bs os run i).1.1 (pairS 4 bs os run i).1.2)
  hhl : (heardF bs os run (rowsF bs lates 4)).length = run.length
theorem repOk_run {bs os : List Int} {run : List (Int × Int)} {lates : List (List Int)} (hb : bs.length = 4) (ho : os.length = 4) (hk : ∀ p ∈ run, (p.1 = 1 ∨ p.1 = 2) ∧ 1 ≤ p.2) (hl : lates.length = run.length + 1) (hls : ∀ i (hi : i < lates.length), lates[i] = lateF (run.take i)) : RepOk bs os run lates := by
  have hk0 : ∀ p ∈ run, p.1 ≠ 0 := fun p hp => by have := (hk p hp).1; omega
  have hrw : ∀ i, i ≤ run.length → (rowsF bs lates 4)[i]? = some (pairS 4 bs os run i).1.1 := fun i hi => by
    refine rowsF_eq (by omega) ?_
    rw [hls i (by omega), row_run (by omega) bs hb run hk0 i hi, (pair_rows (n := 4) (by omega) (o := os) hb hk0 i hi).1]
  have hrl : (rowsF bs lates 4).length = run.length + 1 := by rw [rowsF_len]; omega
  have hh := (pair_inv (n := 4) (by omega) hb ho hrw run.length (Nat.le_refl _)).2
  have ht := pairS_tell (b := bs) (o := os) (run := run) run.length (Nat.le_refl _)
  refine ⟨hrw, ?_, pair_heardOk (n := 4) (by omega) hb ho hrl hrw, fun i hi => ?_, ?_⟩
  · unfold spS
    rw [List.take_length, sp_run hk hrw run.length (Nat.le_refl _)]
  · unfold heardF; rw [hh]; exact ht.2 i hi
  · unfold heardF; rw [hh]; exact ht.1
theorem len3 {l : List Int} (h : l.length = 3) : ∃ a b c, l = [a, b, c] := by
  match l, h with
  | [a, b, c], _ => exact ⟨a, b, c, rfl⟩
theorem offr_at {w : World} {bg ot r lt : Addr} {bs os : List Int} {bvs ovs : List Value} {nb : Nat} {run : List (Int × Int)} {lates : List (List Int)} (hb : IntsAre bvs bs) (ho : IntsAre ovs os) (hbl : bs.length = 3) (hol : os.length = 3) (h2 : run.length < 100) (h3 : lates.length = run.length + 1)
    (h4 : ∀ l ∈ lates, l.length < 900) (p1 : ∀ x ∈ bs, 1 ≤ x) (p2 : ∀ x ∈ os, 1 ≤ x) (hok : ∀ b1 b2 b3 o1 o2 o3, bs = [b1, b2, b3] → os = [o1, o2, o3] → OffOk (b1, b2, b3) (o1, o2, o3) run lates) :
    Does w 283 [.ref bg, .ref ot, .ref r, .ref lt] 16 [] (fun h => (h.get? bg = some (listOf bvs.toArray nb) ∧ h.IsList ot ovs.toArray) ∧ LstAt PairAt h r run ∧ LstAt IntsAt h lt lates) (fun v _ _ => v = .bool true) := by
  obtain ⟨b1, b2, b3, rfl⟩ := len3 hbl
  obtain ⟨o1, o2, o3, rfl⟩ := len3 hol
  exact offr_does w bg ot r lt b1 b2 b3 o1 o2 o3 bvs ovs nb run lates hb ho h2 h3 h4 (p1 _ (by simp)) (p1 _ (by simp)) (p1 _ (by simp)) (p2 _ (by simp)) (p2 _ (by simp)) (p2 _ (by simp)) (hok _ _ _ _ _ _ rfl rfl)
theorem reps_at {w : World} {bg ot r lt : Addr} {bs os : List Int} {bvs ovs : List Value} {nb : Nat} {run : List (Int × Int)} {lates : List (List Int)} (hb : IntsAre bvs bs) (ho : IntsAre ovs os) (hb4 : bs.length = 4) (ho4 : os.length = 4) (h2 : run.length < 100) (h3 : lates.length = run.length + 1)
    (h4 : ∀ l ∈ lates, l.length < 900) (hrun : ∀ p ∈ run, (p.1 = 1 ∨ p.1 = 2) ∧ 1 ≤ p.2) (hok : RepOk bs os run lates) :
    Does w 288 [.ref bg, .ref ot, .ref r, .ref lt] 24 [] (fun h => (h.get? bg = some (listOf bvs.toArray nb) ∧ h.IsList ot ovs.toArray) ∧ LstAt PairAt h r run ∧ LstAt IntsAt h lt lates) (fun v _ _ => v = .bool true) :=
  reps_does w bg ot r lt bs os bvs ovs nb run lates hb ho hb4 ho4 h2 h3 h4 hrun hok.hrw hok.hsp hok.hhk hok.hht hok.hhl
theorem lateS_le (run : List (Int × Int)) : ∀ i, (lateS run i).1.length ≤ i
  | 0 => Nat.le_refl _
  | i + 1 => by
    have h := lateS_le run i
    unfold lateS at h ⊢
    rw [List.take_add_one, List.foldl_append]
    cases ((List.range run.length).reverse)[i]? with
    | none => simp only [Option.toList_none, List.foldl_nil]; omega
    | some j =>
      simp only [Option.toList_some, List.foldl_cons, List.foldl_nil]
      generalize (List.take i (List.range run.length).reverse).foldl (stepL run) ([], []) = st at h ⊢
      unfold stepL
      dsimp only
      split
      · simp only [List.length_append, List.length_cons, List.length_nil]; omega
      · split
        · simp only [List.length_append, List.length_cons, List.length_nil]; omega
        · omega
theorem lates_len {f : Nat → List (Int × Int)} {n : Nat} (hf : ∀ i, i < n → (f i).length < 900) : ∀ l ∈ (List.range n).map fun j => lateF (f j), l.length < 900 := by
  intro l hl
  obtain ⟨j, hj, rfl⟩ := List.mem_map.mp hl
  have h1 := hf j (List.mem_range.mp hj)
  have h2 := lateS_le (f j) (f j).length
  unfold lateF; omega
theorem lates_get {f : Nat → List (Int × Int)} {n : Nat} : ∀ i (hi : i < ((List.range n).map fun j => lateF (f j)).length), ((List.range n).map fun j => lateF (f j))[i] = lateF (f i) := fun i hi => by simp
theorem offL_run {bs os : List Int} {run : List (Int × Int)} {lates : List (List Int)} (hk : ∀ p ∈ run, (p.1 = 1 ∨ p.1 = 2) ∧ 1 ≤ p.2) (ho : ∀ x ∈ os, 1 ≤ x) (hl : lates.length = run.length + 1) (hls : ∀ i (hi : i < lates.length), lates[i] = lateF (run.take i)) :
    ∀ b1 b2 b3 o1 o2 o3, bs = [b1, b2, b3] → os = [o1, o2, o3] → OffOk (b1, b2, b3) (o1, o2, o3) run lates := by
  rintro b1 b2 b3 o1 o2 o3 rfl rfl
  exact offOk_run (fun p hp => by have := hk p hp; omega) ho hl hls
theorem offL_bare {bs : List Int} {first : Int} {run : List (Int × Int)} {lates : List (List Int)} (hf : bs.head? = some first) (hk : ∀ p ∈ run, (0 ≤ p.1 ∧ p.1 ≤ 1) ∧ 1 ≤ p.2) (hl : lates.length = run.length + 1) (hls : ∀ i (hi : i < lates.length), lates[i] = lateF ((1, first) :: run.take i)) :
    ∀ b1 b2 b3 o1 o2 o3, bs = [b1, b2, b3] → bs = [o1, o2, o3] → OffOk (b1, b2, b3) (o1, o2, o3) run lates := by
  rintro b1 b2 b3 o1 o2 o3 rfl e
  cases e
  cases hf
  exact offOk_bare (fun p hp => by have := hk p hp; omega) hl hls


theorem law_in {w : World} {mg mb : Str → Option Value} {p : Program} {loose : List Str} {mean : ExcName → Option Value} {base h₀ : Heap} {env : Env} {L : Addr} {t : Sem Flow} {Q : Flow → Shared → Prop} {E : Value → Shared → Prop} {s : Shared}
    (B : Below callerA base [] h₀) (X : (hd.heap_39 w.params).In h₀) (T : Top p loose mean mg mb h₀) (hf : env.frame = some L) (hke : env.scope.kind = .function)
    (k : Cx w mg mb p loose mean callerA base h₀ env [] L → wpAny (model PR w) (top 302 7 (some []) env []) t Q E s) : wpAny (model PR w) (callerA.deeper env) t Q E s := k ⟨B, X, T, hf, hke⟩
theorem jar_at {w : World} {sc : Addr} {vs : List Value} {ns : List Int} (hi : IntsAre vs ns) (hn : ns.length ≤ 63) : Does w 240 [.ref sc] 2 [] (fun h => h.IsList sc vs.toArray)
    (fun v news _ => ∃ l g x c t u z n, v = .ref l ∧ (l, listOf #[Value.int g t, .int x u, .int c z] n) ∈ news ∧ 0 ≤ g ∧ 0 ≤ x ∧ x < 10007 ∧ c = 0) := jar_does w sc vs ns hi hn
section
variable {w : World} {jar bg : Addr} {g mx c low free : Int} {t1 t2 t3 tl tf : Tok} {n : Nat} {vs : List Value} {ns : List Int}
theorem other_at (hg : 0 ≤ g) (hm0 : 0 ≤ mx) (hm1 : mx < 10007) (hc0 : 0 ≤ c) (hc1 : c < 900000) (hi : IntsAre vs ns) (hn : ns.length = 4) (h1 : ∀ x ∈ ns, 1 ≤ x) (hl : 1 ≤ low) (hl2 : low < 1000) (hj : bg ≠ jar) :
    Does w 252 [.ref jar, .ref bg, .int low tl] 3 [(jar, listOf #[Value.int g t1, .int mx t2, .int c t3] n)] (fun h => h.IsList bg vs.toArray) (fun v news _ => JarIs jar (c + 6) news ∧ ∃ l vs ns n, v = .ref l ∧ l ≠ jar ∧ (l, listOf (List.toArray vs) n) ∈ news ∧ IntsAre vs ns ∧ ns.length = 4 ∧ ∀ x ∈ ns, 1 ≤ x) :=
  other_does w jar g mx c t1 t2 t3 n bg vs ns low tl hg hm0 hm1 hc0 hc1 hi hn h1 hl hl2 hj
theorem fars_at (hg : 0 ≤ g) (hm0 : 0 ≤ mx) (hm1 : mx < 10007) (hc0 : 0 ≤ c) (hc1 : c < 900000) (hl : 1 ≤ low) (hl2 : low < 1000) (hf1 : 1 ≤ free) (hf2 : free ≤ 2) :
    Does w 257 [.ref jar, .int low tl, .int free tf] 3 [(jar, listOf #[Value.int g t1, .int mx t2, .int c t3] n)] (fun _ => True) (fun v news _ => JarIs jar (c + 30) news ∧ ∃ l vs ns n, v = .ref l ∧ l ≠ jar ∧ (l, listOf (List.toArray vs) n) ∈ news ∧ IntsAre vs ns ∧ ns.length ≤ 15 ∧ ∀ x ∈ ns, 1 ≤ x) :=
  fars_does w jar g mx c t1 t2 t3 n low free tl tf hg hm0 hm1 hc0 hc1 hl hl2 hf1 hf2
end

noncomputable def FreeMark : Prop := True
noncomputable abbrev cells5 (L : Nat) (o5 o4 o3 o2 o1 : Obj) : List (Addr × Obj) := [(L + 1 + 1 + 1 + 1 + 1, o5), (L + 1 + 1 + 1 + 1, o4), (L + 1 + 1 + 1, o3), (L + 1 + 1, o2), (L + 1, o1)]
/-- behind jar and free -/
noncomputable def FreePost (g : Heap) (L sc : Addr) (o5 o4 o3 o2 : Obj) (s : Shared) (fl : Flow) (s' : Shared) : Prop :=
  fl = .next ∧ ∃ h' tk jar gg x c t u z n o1 f tf m', s' = { s with heap := h', toks := tk } ∧ Fr g L h' m' ∧ News g L h' ((jar, listOf #[Value.int gg t, .int x u, .int c z] n) :: cells5 L o5 o4 o3 o2 o1) ∧ o1.data = Data.cell (some (Value.ref jar)) ∧
    m' (Str.ofString "script") = some (.ref sc) ∧ m' (Str.ofString "free") = some (.int f tf) ∧ 1 ≤ f ∧ f ≤ 2 ∧ 0 ≤ gg ∧ 0 ≤ x ∧ x < 10007 ∧ c = 0 ∧ Far jar [L + 1 + 1 + 1 + 1 + 1, L + 1 + 1 + 1 + 1, L + 1 + 1 + 1, L + 1 + 1, L + 1]
theorem menu_rng {d : Int} (h0 : 0 ≤ d) (h1 : d < 3) : 1 ≤ [1, 1, (40 : Int)].getD d.toNat 0 ∧ [1, 1, (40 : Int)].getD d.toNat 0 ≤ 40 := by
  have : d = 0 ∨ d = 1 ∨ d = 2 := by omega
  rcases this with rfl | rfl | rfl <;> decide
theorem far_one {l : List (Addr × Obj)} {A : List Addr} {C a : Addr} {o1 : Obj} (h : OwnOff l A) (hC : C ∈ A) (m1 : (a, o1) ∈ l) : Far C [a] := List.forall_mem_cons.mpr ⟨fun e => h _ m1 C hC e.symm, List.forall_mem_nil _⟩


theorem menu4_rng {d : Int} (h0 : 0 ≤ d) (h1 : d < 4) : 0 ≤ [0, 0, 0, (1 : Int)].getD d.toNat 0 ∧ [0, 0, 0, (1 : Int)].getD d.toNat 0 ≤ 1 := by
  have : d = 0 ∨ d = 1 ∨ d = 2 ∨ d = 3 := by omega
  rcases this with rfl | rfl | rfl | rfl <;> decide
noncomputable def runJ (jar : Addr) (lim : Int) (ex t0 : List (Addr × Obj)) (fx : List Addr) (ok : Int × Int → Prop) (i : Nat) (ys : List Value) (nx : List (Addr × Obj)) : Prop :=
  ∃ g mx c t1 t2 t3 n tnx ps, 0 ≤ g ∧ 0 ≤ mx ∧ mx < 10007 ∧ 0 ≤ c ∧ c ≤ lim + (i : Int) ∧ nx = (jar, listOf #[Value.int g t1, .int mx t2, .int c t3] n) :: (ex ++ (tnx ++ t0)) ∧ OwnOff tnx fx ∧ Are (PairIn tnx) ys ps ∧ ps.length = i ∧ ∀ p ∈ ps, ok p
theorem run_end {g h' : Heap} {L C Dc jar T : Addr} {m : Str → Option Value} {ex own own4 tnx t0 : List (Addr × Obj)} {oC oD jo jo' tup : Obj} {J : List Value → List (Addr × Obj) → Prop} {ys : List Value} {s₁ : Shared} {tk : Nat} (F : Fr g L h' m)
    (N : News g L h' ((T, tup) :: (C, oC) :: (Dc, oD) :: (jar, jo') :: (ex ++ own4))) (hlt : AllLt T ((C, oC) :: (Dc, oD) :: (jar, jo') :: (ex ++ own4))) (h4 : own4 = (tnx ++ t0) ++ own)
    (h1 : OwnOff own (((jar, jo) :: (ex ++ (tnx ++ t0))).map (·.1))) (h3 : OwnOff ((jar, jo) :: (ex ++ (tnx ++ t0))) [C, Dc])
    (hj : (∀ p ∈ (C, oC) :: (Dc, oD) :: (jar, jo') :: (ex ++ own4), @LT.lt Nat _ p.1 T) → J (ys ++ [Value.ref T]) ((jar, jo') :: (ex ++ (((T, tup) :: tnx) ++ t0)))) : EltEnd g L m J ys ((C, oC) :: (Dc, oD) :: own) s₁ (.ref T) { s₁ with heap := h', toks := tk } := by
  subst h4
  have hall := allLt_all hlt
  refine elt_end (nx := (jar, jo') :: (ex ++ (((T, tup) :: tnx) ++ t0))) F N (hj hall) ?_ ?_ ?_
  · intro p hp b hb
    have hb' : b = T ∨ b ∈ ((jar, jo) :: (ex ++ (tnx ++ t0))).map (·.1) := by
      simp only [List.map_cons, List.map_append, List.mem_cons, List.mem_append, List.cons_append] at hb ⊢
      rcases hb with h | h | h | h | h
      · exact .inr (.inl h)
      · exact .inr (.inr (.inl h))
      · exact .inl h
      · exact .inr (.inr (.inr (.inl h)))
      · exact .inr (.inr (.inr (.inr h)))
    rcases List.mem_cons.mp hp with rfl | hp
    · rcases hb' with rfl | hb'
      · exact Nat.ne_of_lt (hall _ (.head _))
      · obtain ⟨q, hq, rfl⟩ := List.mem_map.mp hb'
        exact fun e => h3 q hq C (.head _) e.symm
    · rcases List.mem_cons.mp hp with rfl | hp
      · rcases hb' with rfl | hb'
        · exact Nat.ne_of_lt (hall _ (.tail _ (.head _)))
        · obtain ⟨q, hq, rfl⟩ := List.mem_map.mp hb'
          exact fun e => h3 q hq Dc (.tail _ (.head _)) e.symm
      · rcases hb' with rfl | hb'
        · exact Nat.ne_of_lt (hall _ (.tail _ (.tail _ (.tail _ (List.mem_append_right _ (List.mem_append_right _ hp))))))
        · exact h1 p hp b hb'
  · k_extra "sub"
  · k_extra "sub"
theorem slice_upto (vs : List Value) {y : Int} (h : 0 ≤ y) : slicePick vs.toArray none (some y) none = (vs.take y.toNat).toArray := by
  have e : sliceBounds none (some y) none vs.toArray.size = (((0 : Nat) : Int), ((min y.toNat vs.toArray.size : Nat) : Int), 1) := by
    simp only [sliceBounds, Option.getD_none, show (1 : Int) > 0 by decide, if_true, if_neg (show ¬ (y < 0) by omega)]
    congr 1
    congr 1
    omega
  rw [kmk_pick_nat _ e]
  show ((vs.drop 0).take (min y.toNat vs.toArray.size - 0)).toArray = _
  rw [List.drop_zero, Nat.sub_zero, List.size_toArray, kmk_take_min]
theorem slice_K {prog : Program} {w : World} {A : Around} {E : Value → Shared → Prop} {s : Shared} {h₀ : Heap} {L l : Addr} {m : Str → Option Value} {news : List (Addr × Obj)} {value slice : PySem.Expr} {vs : List Value} {vu : Value} {y : Int} {n : Nat} {Q : Value → Shared → Prop}
    (F : Fr h₀ L s.heap m) (N : News h₀ L s.heap news) (hl : (l, listOf (List.toArray vs) n) ∈ news) (pu : IsPart vu (some y)) (hy : 0 ≤ y)
    (h : ∀ D h', Fr h₀ L h' m → News h₀ L h' ((D, listOf (List.toArray (vs.take y.toNat)) 0) :: news) → (∀ p ∈ news, p.1 < D) → Q (.ref D) { s with heap := h' })
    (hs : subscripted slice false (.ref l) (.ref s.heap.objs.size) = operate [.ref s.heap.objs.size, .ref l] (getItem (.ref l) (.ref s.heap.objs.size))) (ht : ∀ r, letTemporaryGo value (.ref l) r = pure ()) (hz : vs.length ≤ 16777216) :
    wpAny (model prog w) A (subscriptTail value slice (.ref l) (.ref s.heap.objs.size)) Q E { s with heap := s.heap.push { cls := .type "slice", data := .fields #[.none, vu, .none] } } :=
  kmk_slice F N ⟨_, (N _ hl).1, rfl, n, rfl⟩ (by first | exact IsPart.none | exact rfl | constructor) pu (fun D h' F' N' l1 => h D h' F' (by rw [slice_upto vs hy] at N'; exact N') l1) hs ht (by rw [sizeLine_eq]; simpa using hz)

theorem run_open {g h : Heap} {L : Addr} {C D j : Addr × Obj} {ex tn own own4 : List (Addr × Obj)} (N : News g L h (C :: D :: ((j :: (ex ++ tn)) ++ own))) (h4 : own4 = tn ++ own) : News g L h (C :: D :: j :: (ex ++ own4)) := by
  subst h4
  exact news_sub N (by k_extra "sub")

theorem run_endR {g h' : Heap} {L C Dc jar T : Addr} {m : Str → Option Value} {ex own own4 tnx t0 : List (Addr × Obj)} {oC oD jo : Obj} {ys : List Value} {s₁ : Shared} {tk : Nat} {gg mx c a b lim : Int} {t1 t2 t3 ta tb : Tok} {n nt i : Nat} {fx : List Addr} {ok : Int × Int → Prop} {ps : List (Int × Int)} (F : Fr g L h' m)
    (N : News g L h' ((T, tupO [Value.int a ta, Value.int b tb] nt) :: (C, oC) :: (Dc, oD) :: (jar, listOf #[Value.int gg t1, .int mx t2, .int c t3] n) :: (ex ++ own4))) (hlt : AllLt T ((C, oC) :: (Dc, oD) :: (jar, listOf #[Value.int gg t1, .int mx t2, .int c t3] n) :: (ex ++ own4))) (h4 : own4 = (tnx ++ t0) ++ own)
    (h1 : OwnOff own (((jar, jo) :: (ex ++ (tnx ++ t0))).map (·.1))) (h3 : OwnOff ((jar, jo) :: (ex ++ (tnx ++ t0))) [C, Dc])
    (hfx : (∀ p ∈ (C, oC) :: (Dc, oD) :: (jar, listOf #[Value.int gg t1, .int mx t2, .int c t3] n) :: (ex ++ own4), @LT.lt Nat _ p.1 T) → ∀ b ∈ fx, @LT.lt Nat _ b T)
    (b1 : 0 ≤ gg) (b2 : 0 ≤ mx) (b3 : mx < 10007) (b4 : 0 ≤ c) (b5 : c ≤ lim + (i : Int) + 1) (ht : OwnOff tnx fx) (hps : Are (PairIn tnx) ys ps) (hpl : ps.length = i) (hpo : ∀ p ∈ ps, ok p) (hok : ok (a, b)) :
    EltEnd g L m (runJ jar lim ex t0 fx ok (i + 1)) ys ((C, oC) :: (Dc, oD) :: own) s₁ (.ref T) { s₁ with heap := h', toks := tk } :=
  run_end F N hlt h4 h1 h3 fun hall => ⟨gg, mx, c, t1, t2, t3, n, (T, tupO [Value.int a ta, Value.int b tb] nt) :: tnx, ps ++ [(a, b)], b1, b2, b3, b4, by rw [Int.natCast_add]; omega, rfl, fun p hp b hb => by
      rcases List.mem_cons.mp hp with rfl | hp
      · exact Nat.ne_of_gt (hfx hall b hb)
      · exact ht p hp b hb, (hps.mono fun v p x => x.more fun q hq => .tail _ hq).snoc ⟨T, ta, tb, nt, rfl, .head _⟩, by simp [hpl], fun p hp => by
      rcases List.mem_append.mp hp with hp | hp
      · exact hpo p hp
      · rw [List.mem_singleton.mp hp]; exact hok⟩

theorem news_drop2 {g h : Heap} {L : Addr} {a b : Addr × Obj} {l : List (Addr × Obj)} (N : News g L h (a :: b :: l)) : News g L h (a :: l) :=
  news_sub N fun p hp => (List.mem_cons.mp hp).elim (fun e => e ▸ List.Mem.head _) fun hp => .tail _ (.tail _ hp)

theorem new_end {g h' : Heap} {L C Dc T : Addr} {m : Str → Option Value} {ex own own4 tn : List (Addr × Obj)} {oC oD o : Obj} {J : List Value → List (Addr × Obj) → Prop} {ys : List Value} {s₁ : Shared} {tk : Nat} (F : Fr g L h' m) (N : News g L h' ((T, o) :: (C, oC) :: (Dc, oD) :: (ex ++ own4)))
    (hne : AllNe T ((C, oC) :: (Dc, oD) :: (ex ++ own4))) (h4 : own4 = tn ++ own) (h1 : OwnOff own ((ex ++ tn).map (·.1))) (h3 : OwnOff (ex ++ tn) [C, Dc]) (hj : J (ys ++ [Value.ref T]) (ex ++ ((T, o) :: tn))) : EltEnd g L m J ys ((C, oC) :: (Dc, oD) :: own) s₁ (.ref T) { s₁ with heap := h', toks := tk } := by
  subst h4
  have hall := allNe_all hne
  refine elt_end (nx := ex ++ ((T, o) :: tn)) F N hj ?_ ?_ ?_
  · intro p hp b hb
    have hb' : b = T ∨ b ∈ (ex ++ tn).map (·.1) := by
      simp only [List.map_append, List.map_cons, List.mem_cons, List.mem_append] at hb ⊢
      rcases hb with h | h | h
      · exact .inr (.inl h)
      · exact .inl h
      · exact .inr (.inr h)
    rcases List.mem_cons.mp hp with rfl | hp
    · rcases hb' with rfl | hb'
      · exact hall _ (.head _)
      · obtain ⟨q, hq, rfl⟩ := List.mem_map.mp hb'
        exact fun e => h3 q hq C (.head _) e.symm
    · rcases List.mem_cons.mp hp with rfl | hp
      · rcases hb' with rfl | hb'
        · exact hall _ (.tail _ (.head _))
        · obtain ⟨q, hq, rfl⟩ := List.mem_map.mp hb'
          exact fun e => h3 q hq Dc (.tail _ (.head _)) e.symm
      · rcases hb' with rfl | hb'
        · exact hall _ (.tail _ (.tail _ (List.mem_append_right _ (List.mem_append_right _ hp))))
        · exact h1 p hp b hb'
  · k_extra "sub"
  · k_extra "sub"
theorem new_open {g h : Heap} {L : Addr} {C D : Addr × Obj} {ex tn own own4 : List (Addr × Obj)} (N : News g L h (C :: D :: ((ex ++ tn) ++ own))) (h4 : own4 = tn ++ own) : News g L h (C :: D :: (ex ++ own4)) := by
  subst h4; rw [← List.append_assoc]; exact N
noncomputable def SliceMark : Prop := True
theorem late_at {w : World} {r : Addr} {run : List (Int × Int)} (hn : run.length < 1000) : Does w 264 [.ref r] 2 [] (fun h => LstAt PairAt h r run) (fun v news _ => ∃ l vs n, v = .ref l ∧ (l, listOf (List.toArray vs) n) ∈ news ∧ IntsAre vs (lateF run)) := late_does w r run hn
noncomputable def latesJ (ex t0 : List (Addr × Obj)) (f : Nat → List Int) (i : Nat) (ys : List Value) (nx : List (Addr × Obj)) : Prop := ∃ rnx, nx = ex ++ (rnx ++ t0) ∧ LstIn rnx ys ((List.range i).map f)
theorem lates_snoc {rnx : List (Addr × Obj)} {ys : List Value} {f : Nat → List Int} {i : Nat} {l : Addr} {vs : List Value} {n : Nat} (h : LstIn rnx ys ((List.range i).map f)) (hi : IntsAre vs (f i)) : LstIn ((l, listOf (List.toArray vs) n) :: rnx) (ys ++ [Value.ref l]) ((List.range (i + 1)).map f) := by
  rw [List.range_succ, List.map_append]
  exact (h.more fun p hp => .tail _ hp).snoc ⟨l, vs, n, rfl, .head _, hi⟩

section
variable {prog : Program} {w : World} {A : Around} {E : Value → Shared → Prop} {s : Shared} {env : Env} {h₀ : Heap}
theorem src_two {L l : Addr} {led : List (Addr × Obj)} {v0 v1 : Value} {n : Nat} {target : Expr} {Q : Value → Shared → Prop} (hh : A.handled = none) (N : News h₀ L s.heap led) (hm : (l, listOf #[v0, v1] n) ∈ led)
    (k : ∀ it s₂, SrcAt prog w A target 2 (fun i _ v => (i = 0 ∧ v = v0) ∨ (i = 1 ∧ v = v1)) [l] s it s₂ → Q it s₂) : wpAny (model prog w) A (pyIter (.ref l)) Q E s :=
  src_list (items := #[v0, v1]) hh ⟨_, (N _ hm).1, rfl, n, rfl⟩ fun it s₂ S => k it s₂ (by
    obtain ⟨I, fp, wr, St, h₂, e1, e2, W, r⟩ := S
    refine ⟨I, fp, wr, St, h₂, e1, e2, ⟨W.sub, W.frame, W.live, fun i s Q E hi st hQ => W.item i s Q E hi st fun v h' tk hP => hQ v h' tk ?_, W.done, W.self⟩, r⟩
    have hi : i < 2 := hi
    have : i = 0 ∨ i = 1 := by omega
    rcases this with rfl | rfl
    · exact .inl ⟨rfl, by simpa using hP.symm⟩
    · exact .inr ⟨rfl, by simpa using hP.symm⟩)
theorem loop_two {target : Expr} {body : List Stmt} {Q : Flow → Shared → Prop} {Pv : Nat → Heap → Value → Prop} {l : Addr} {o : Obj} {it : Value} {s₂ : Shared} {m : Str → Option Value} {nx₀ : List (Addr × Obj)}
    (R : (Str → Option Value) → Prop) (S : SrcAt prog w A target 2 Pv [l] s it s₂) (F : Fr h₀ env.locals s.heap m) (N : News h₀ env.locals s.heap nx₀) (hl : (l, o) ∈ nx₀) (hR : R m)
    (turn : ∀ i v m₁ h tk own, i < 2 → Pv i h v → OwnOff own (nx₀.map (·.1)) → R m₁ → Fr h₀ env.locals h m₁ → News h₀ env.locals h (nx₀ ++ own) →
      wpAny (model prog w) A (assign target env v) (fun _ s₃ => wpAny (model prog w) A (execs body env) (SrcTurn h₀ env.locals (fun m nx => R m ∧ nx = nx₀) own { s with heap := h, toks := tk }) (fun _ _ => False) s₃) (fun _ _ => False) { s with heap := h, toks := tk })
    (done : ∀ h' tk m', R m' → Fr h₀ env.locals h' m' → News h₀ env.locals h' nx₀ → Q .next { s with heap := h', toks := tk }) : LoopS prog w A h₀ env target body Q it s₂ :=
  loop_of (fun _ m nx => R m ∧ nx = nx₀) S F N ⟨hR, rfl⟩ (fun b hb => .inr ⟨o, fun i m' nx h => by rw [List.mem_singleton.mp hb, h.2]; exact hl⟩)
    (fun i v m₁ nx h tk own hi hP hoff hJ F₁ N₁ => by
      obtain ⟨hR₁, rfl⟩ := hJ
      exact turn i v m₁ h tk own hi hP hoff hR₁ F₁ N₁)
    fun h' tk m' nx hJ F' N' => by
      obtain ⟨hR₁, rfl⟩ := hJ
      exact done h' tk m' hR₁ F' N'
theorem two_end {g h' : Heap} {L : Addr} {R : (Str → Option Value) → Prop} {m' : Str → Option Value} {nx₀ own news' : List (Addr × Obj)} {s₁ : Shared} {tk : Nat} (F : Fr g L h' m') (N : News g L h' news') (hoff : OwnOff own (nx₀.map (·.1))) (hs : ∀ p ∈ nx₀ ++ own, p ∈ news') (hR : R m') :
    SrcTurn g L (fun m nx => R m ∧ nx = nx₀) own s₁ .next { s₁ with heap := h', toks := tk } :=
  src_next F N ⟨hR, rfl⟩ hoff (fun p hp => hs p (List.mem_append_left _ hp)) fun p hp => hs p (List.mem_append_right _ hp)
end

theorem late2_hp {g h : Heap} {L pl T : Addr} {news tnx : List (Addr × Obj)} {bvs : List Value} {k n nt : Nat} {a b : Int} {t u : Tok} {ps : List (Int × Int)} (N : News g L h news) (hm : (pl, listOf (List.toArray ([Value.ref T] ++ bvs.take k)) n) ∈ news)
    (hT : (T, tupO [Value.int a t, Value.int b u] nt) ∈ news) (x : Are (PairIn tnx) bvs ps) (hs : ∀ p ∈ tnx, p ∈ news) : LstAt PairAt h pl ((a, b) :: ps.take k) :=
  ⟨_, ⟨_, (N _ hm).1, rfl, n, rfl⟩, Are.append (xs := [(a, b)]) (Are.snoc (vs := []) (xs := []) Are.nil ⟨T, t, u, rfl, ⟨_, (N _ hT).1, rfl, nt, rfl⟩⟩) ((x.take k).mono fun _ _ y => y.at N hs)⟩
theorem head_take3 {l : List Int} {b : Int} (h : l[0]? = some b) : (l.take 3).head? = some b := by
  cases l with
  | nil => simp at h
  | cons a r => simpa using h
theorem news_drop5 {g h : Heap} {L : Addr} {a b c d e : Addr × Obj} {l : List (Addr × Obj)} (N : News g L h (a :: b :: c :: d :: e :: l)) : News g L h (a :: l) :=
  news_sub N fun p hp => (List.mem_cons.mp hp).elim (fun e => e ▸ List.Mem.head _) fun hp => .tail _ (.tail _ (.tail _ (.tail _ (.tail _ hp))))

theorem word88 : True := by
  (k_with "w:call ref" => row_timed "z" ((k_here; (with_reducible show wpAny _ _ (call (Value.ref 240) _) _ _ _); (k_dflt (refine' does_use0 (jar_at ?z9hi ?z9hn) ?z9cx ?z9F ?z9N ?z9hp ?z9hdp ?z9hun ?_)); (case z9cx => k_dflt k_asm); (case z9F => k_dflt k_asm); (case z9N => k_dflt k_asm); (case z9hp => k_dflt (exact stays_list (Fr.keep (by k_asm)) (by assumption))); (case z9hdp => ((try dsimp only [top]); omega)); (case z9hun => ((try dsimp only [top]); omega)); (case z9hi => with_reducible assumption);(case z9hn => omega); k_whole; (k_dflt (rintro z9v' z9new' z9h' z9tk' z9F' z9N' z9hnew' z9st' z9hpost'; refine (let z9G' : Prop := _; (?_ : z9G')); obtain ⟨z9l', z9g', z9x', z9c', z9t', z9u', z9z', z9n', z9e', z9hm', z9q1', z9q2', z9q3', z9q4'⟩ := z9hpost')); subst z9e'; (replace z9N' := (z9hnew' _ z9hm').news z9N'); (have z9hne' := (z9hnew' _ z9hm').ne); (try dsimp only [AllNe] at z9hne'); clear z9hnew' z9hm' z9st'; (try k_unmd); (try k_unfold); (try dsimp only); (try k_fold))))
  trivial

theorem word89 : True := by
  (k_with "w:call ref" => row_timed "z" ((k_here; (with_reducible show wpAny _ _ (call (Value.ref 252) _) _ _ _); (k_dflt (refine' does_use1 (other_at ?z9hg ?z9hm0 ?z9hm1 ?z9hc0 ?z9hc1 ?z9hi ?z9hn ?z9h1 ?z9hl ?z9hl2 ?z9hj) ?z9cx ?z9F ?z9N ?z9U ?z9hp ?z9hdp ?z9hun ?_)); (case z9cx => k_dflt k_asm); (case z9F => k_dflt k_asm); (case z9N => k_dflt k_asm); (case z9U => k_dflt k_updF); (case z9hp => k_dflt (exact ⟨_, got_news (by k_asm) (by k_mem), rfl, _, rfl⟩)); (case z9hdp => ((try dsimp only [top]); omega)); (case z9hun => ((try dsimp only [top]); omega)); (case z9hg => omega); (case z9hm0 => omega); (case z9hm1 => omega); (case z9hc0 => omega); (case z9hc1 => omega);(case z9hi => with_reducible assumption); (case z9hn => with_reducible assumption); (case z9h1 => with_reducible assumption); (case z9hl => omega); (case z9hl2 => omega); (case z9hj => k_ne); k_whole; (k_dflt (rintro z9v' z9new' z9h' z9tk' z9F' z9N' z9hnew' z9st' z9hpost'; refine (let z9G' : Prop := _; (?_ : z9G')); obtain ⟨⟨z9g', z9mx', z9c', z9t1', z9t2', z9t3', z9n', z9hg', z9hm0', z9hm1', z9hc0', z9hc1', z9hm'⟩, z9l', z9vs', z9ns', z9n2', z9e', z9hne', z9hm2', z9hi', z9hl4', z9ha'⟩ := z9hpost')); subst z9e'; (replace z9N' := (z9hnew' _ z9hm2' z9hne').news (z9N' _ z9hm')); (have z9hne2' := (z9hnew' _ z9hm2' z9hne').ne); (try dsimp only [AllNe] at z9hne2'); (try dsimp only at z9N'); clear z9hnew' z9hm' z9hm2' z9st'; (try k_unmd); (try k_unfold); (try dsimp only); (try k_fold))))
  trivial

theorem word90 : True := by
  (k_with "w:call ref" => row_timed "z" ((k_here; (with_reducible show wpAny _ _ (call (Value.ref 257) _) _ _ _); (k_dflt (refine' does_use1 (fars_at ?z9hg ?z9hm0 ?z9hm1 ?z9hc0 ?z9hc1 ?z9hl ?z9hl2 ?z9hf1 ?z9hf2) ?z9cx ?z9F ?z9N ?z9U ?z9hp ?z9hdp ?z9hun ?_)); (case z9cx => k_dflt k_asm); (case z9F => k_dflt k_asm); (case z9N => k_dflt k_asm); (case z9U => k_dflt k_updF); (case z9hp => k_dflt (exact trivial)); (case z9hdp => ((try dsimp only [top]); omega)); (case z9hun => ((try dsimp only [top]); omega)); (case z9hg => omega); (case z9hm0 => omega); (case z9hm1 => omega); (case z9hc0 => omega); (case z9hc1 => omega);(case z9hl => omega); (case z9hl2 => omega); (case z9hf1 => omega); (case z9hf2 => omega); k_whole; (k_dflt (rintro z9v' z9new' z9h' z9tk' z9F' z9N' z9hnew' z9st' z9hpost'; refine (let z9G' : Prop := _; (?_ : z9G')); obtain ⟨⟨z9g', z9mx', z9c', z9t1', z9t2', z9t3', z9n', z9hg', z9hm0', z9hm1', z9hc0', z9hc1', z9hm'⟩, z9l', z9vs', z9ns', z9n2', z9e', z9hne', z9hm2', z9hi', z9hl4', z9ha'⟩ := z9hpost')); subst z9e'; (replace z9N' := (z9hnew' _ z9hm2' z9hne').news (z9N' _ z9hm')); (have z9hne2' := (z9hnew' _ z9hm2' z9hne').ne); (try dsimp only [AllNe] at z9hne2'); (try dsimp only at z9N'); clear z9hnew' z9hm' z9hm2' z9st'; (try k_unmd); (try k_unfold); (try dsimp only); (try k_fold))))
  trivial

theorem word91 : True := by
  (k_with "w:subscriptTail Name Slice ref ref" => row_timed "z" ((k_here; (with_reducible rename SliceMark => z9hMk9); (with_reducible show wpAny _ _ (subscriptTail _ (PySem.Expr.Slice _ _ none _) (Value.ref _) (Value.ref _)) _ _ _); (k_dflt (refine' slice_K ?z9F ?z9N ?z9l ?z9q ?z9y ?_ ?z9s ?z9t ?z9z)); (case z9F => k_dflt k_asm); (case z9N => k_dflt k_asm); (case z9l => k_dflt k_mem); (case z9q => kmk_part); (case z9y => omega); (case z9s => with_unfolding_all rfl); (case z9t => kmk_pure); (case z9z => omega); intro z9D' z9h' z9F' z9N' z9l1; (try k_lt z9l1); (try k_sweep))))
  trivial

theorem word92 : True := by
  (k_with "w:call ref" => row_timed "z" ((k_here; (with_reducible show wpAny _ _ (call (Value.ref 264) _) _ _ _); (k_dflt (refine' does_use0 (late_at ?z9hn) ?z9cx ?z9F ?z9N ?z9hp ?z9hdp ?z9hun ?_)); (case z9cx => k_dflt k_asm); (case z9F => k_dflt k_asm); (case z9N => k_dflt k_asm); (case z9hp => k_dflt (first | exact plain_at (by k_asm) (by k_mem) (Are.take (by assumption) _) (by intro p hp; k_ownIn) | exact late2_hp (by k_asm) (by k_mem) (by k_mem) (by assumption) (by intro p hp; k_ownIn))); (case z9hdp => ((try dsimp only [top]); omega)); (case z9hun => ((try dsimp only [top]); omega)); (case z9hn => ((try simp only [List.length_cons]); simp only [List.length_take]; omega)); k_whole; (k_dflt (rintro z9v' z9new' z9h' z9tk' z9F' z9N' z9hnew' z9st' z9hpost'; refine (let z9G' : Prop := _; (?_ : z9G')); obtain ⟨z9l', z9vs', z9n', z9e', z9hm', z9hi'⟩ := z9hpost')); subst z9e'; (replace z9N' := (z9hnew' _ z9hm').news z9N'); (have z9hne' := (z9hnew' _ z9hm').ne); (try dsimp only [AllNe] at z9hne'); clear z9hnew' z9hm' z9st'; (try k_unmd); (try k_unfold); (try dsimp only); (try k_fold))))
  trivial

theorem word93 : True := by
  (k_with "w:exec For Tuple List cons nil" => row_timed "z" ((k_here; (k_dflt (refine' for_srcF ?z9F ?_ ?z9s)); (case z9F => k_dflt k_asm); (case z9s => k_dflt (intro _; exact rfl)); k_whole)))
  trivial

theorem word94 : True := by
  (k_with "w:call ref" => row_timed "z" ((k_here; (with_reducible show wpAny _ _ (call (Value.ref 283) _) _ _ _); (k_dflt (refine' does_use0 (offr_at ?z9hb ?z9ho ?z9hbl ?z9hol ?z9h2 ?z9h3 ?z9h4 ?z9p1 ?z9p2 ?z9hok) ?z9cx ?z9F ?z9N ?z9hp ?z9hdp ?z9hun ?_)); (case z9cx => k_dflt k_asm); (case z9F => k_dflt k_asm); (case z9N => k_dflt k_asm); (case z9hp => k_dflt (exact ⟨⟨got_news (by k_asm) (by k_mem), ⟨_, got_news (by k_asm) (by k_mem), rfl, _, rfl⟩⟩, plain_at (by k_asm) (by k_mem) (by assumption) (by intro p hp; k_ownIn), ⟨_, ⟨_, got_news (by k_asm) (by k_mem), rfl, _, rfl⟩, LstIn.at (by assumption) (by k_asm) (by intro p hp; k_ownIn)⟩⟩)); (case z9hdp => ((try dsimp only [top]); omega)); (case z9hun => ((try dsimp only [top]); omega)); (case z9hb => with_reducible assumption); (case z9ho => with_reducible assumption); (case z9hbl => with_reducible assumption); (case z9hol => with_reducible assumption); (case z9h2 => with_reducible assumption); (case z9h3 => with_reducible assumption); (case z9h4 => with_reducible assumption); (case z9p1 => with_reducible assumption); (case z9p2 => with_reducible assumption); (case z9hok => with_reducible assumption); k_whole; (k_dflt rintro z9v' z9new' z9h' z9tk' z9F' z9N' z9hnew' z9st' z9e'); subst z9e'; clear z9hnew' z9st'; (try k_unmd); (try k_unfold); (try dsimp only); (try k_fold))))
  trivial

theorem word95 : True := by
  (k_with "w:call ref" => row_timed "z" ((k_here; (with_reducible show wpAny _ _ (call (Value.ref 288) _) _ _ _); (k_dflt (refine' does_use0 (reps_at ?z9hb ?z9ho ?z9hb4 ?z9ho4 ?z9h2 ?z9h3 ?z9h4 ?z9hrun ?z9hok) ?z9cx ?z9F ?z9N ?z9hp ?z9hdp ?z9hun ?_)); (case z9cx => k_dflt k_asm); (case z9F => k_dflt k_asm); (case z9N => k_dflt k_asm); (case z9hp => k_dflt (exact ⟨⟨got_news (by k_asm) (by k_mem), ⟨_, got_news (by k_asm) (by k_mem), rfl, _, rfl⟩⟩, plain_at (by k_asm) (by k_mem) (by assumption) (by intro p hp; k_ownIn), ⟨_, ⟨_, got_news (by k_asm) (by k_mem), rfl, _, rfl⟩, LstIn.at (by assumption) (by k_asm) (by intro p hp; k_ownIn)⟩⟩)); (case z9hdp => ((try dsimp only [top]); omega)); (case z9hun => ((try dsimp only [top]); omega)); (case z9hb => with_reducible assumption); (case z9ho => with_reducible assumption); (case z9hb4 => with_reducible assumption); (case z9ho4 => with_reducible assumption); (case z9h2 => with_reducible assumption); (case z9h3 => with_reducible assumption); (case z9h4 => with_reducible assumption); (case z9hrun => with_reducible assumption); (case z9hok => with_reducible assumption); k_whole; (k_dflt rintro z9v' z9new' z9h' z9tk' z9F' z9N' z9hnew' z9st' z9e'); subst z9e'; clear z9hnew' z9st'; (try k_unmd); (try k_unfold); (try dsimp only); (try k_fold))))
  trivial

theorem word96 : True := by
  (k_with "w:binaryOp Add ref ref" => row_timed "z" ((k_here; (with_reducible rename SliceMark => z9hMk8); (with_reducible rename AddMark => z9hMk9); (with_reducible show wpAny _ _ (binaryOp Operator.Add (Value.ref _) (Value.ref _)) _ _ _); (k_dflt (refine' add_K ?z9F ?z9N ?z9a ?z9b ?z9z ?_)); (case z9F => k_dflt k_asm); (case z9N => k_dflt k_asm); (case z9a => k_dflt k_mem); (case z9b => k_dflt k_mem); (case z9z => (simp only [List.length_take, List.length_cons, List.length_nil]; omega)); k_whole; (intro z9D' z9h' z9F' z9N' z9l1); (try k_lt z9l1); (try k_sweep))))
  trivial

theorem word97 : True := by
  (k_with "w:exec Assign" => row_timed "z" (((with_reducible rename FreeMark => z9hF9); (with_reducible rename (@LT.lt Int _ _ 10007) => z9hG9); refine stop_ ?_)))
  trivial


local macro_rules | `(tactic| k_qdec) => `(tactic| decide +kernel)
set_option maxHeartbeats 8000000 in
theorem law_holds : PySem.Challenge.rw_tk0119_01.Holds := hd rfl rfl rfl (by
  k_go0
  rename_i sc vs wla hll ra w1 r0 hI hr2 hc1 hc2 K0 hD h1 tk1 F0 o5 o4 o3 o2 o1 d5 d4 d3 d2 d1 N0 X0
  rename List Int => ns
  rename Shared => s1
  rename Frag.In _ _ => KX
  rename Top _ _ _ _ _ _ => T0
  have hn63 : ns.length ≤ 63 := by omega
  have hrl : recursionLimit = 1000 := rfl
  have hcl : cLine = 9900 := rfl
  refine law_in K0 KX T0 rfl rfl (fun cx => ?_)
  clear hD X0 hr2 r0 w1 ra hc1 hc2
  generalize s1.heap.objs.size = L at *
  (try k_fold)
  have hFM : FreeMark := trivial
  k_steps
  refine stop_on ?_
  rename FreeMark => hz
  clear hz
  refine cut_at (FreePost s1.heap L sc o5 o4 o3 o2) ?free ?rest
  case free =>
    k_steps
    all_goals (try dsimp only)
    all_goals (refine' ⟨rfl, _, _, _, _, _, _, _, _, _, _, _, _, _, _, rfl, by assumption, by assumption, by assumption, rfl, rfl, ?_, ?_, by assumption, by assumption, by assumption, by assumption, ?_⟩)
    all_goals (try (exact List.forall_mem_cons.mpr ⟨neN (by omega), List.forall_mem_cons.mpr ⟨neN (by omega), List.forall_mem_cons.mpr ⟨neN (by omega), List.forall_mem_cons.mpr ⟨neN (by omega), List.forall_mem_cons.mpr ⟨neN (by omega), List.forall_mem_nil _⟩⟩⟩⟩⟩))
    all_goals (first | omega | (split <;> omega))
  case rest =>
    rintro fl s' ⟨rfl, hz⟩
    refine ex14 hz ?_
    intro h' tk jar gg x c t u z n o1' f tf m' z9p
    clear hz
    refine and13 z9p ?_
    clear z9p
    intro z9e0 F₁ N₁ dj e1 e2 f1 f2 j1 j2 j3 j4 y1
    subst z9e0
    have F₂ := fr_lit [(Str.ofString "script", .ref sc), (Str.ofString "free", .int f tf)] (List.forall_mem_cons.mpr ⟨e1, List.forall_mem_cons.mpr ⟨e2, List.forall_mem_nil _⟩⟩) F₁
    clear F₁ F0 N0 d1
    dsimp only [kstB] at F₂
    dsimp only [cells5] at N₁
    have hFM : FreeMark := trivial
    k_steps
    refine stop_on ?_
    rename FreeMark => hz
    clear hz
    refine cut_L (g := s1.heap) (L := L) (fun m led => ∃ gg x c t u z n o2 lw tl, m (Str.ofString "free") = some (.int f tf) ∧ led = (jar, listOf #[Value.int gg t, .int x u, .int c z] n) :: cells5 L o5 o4 o3 o2 o1' ∧ o2.data = Data.cell (some (Value.int lw tl)) ∧ 1 ≤ lw ∧ lw ≤ 40 ∧ 0 ≤ gg ∧ 0 ≤ x ∧ x < 10007 ∧ 0 ≤ c ∧ c ≤ 1) ?low ?rest2
    case low =>
      k_steps
      (try dsimp only)
      refine lpost (_ :: cells5 L o5 o4 o3 _ o1') (by assumption) (by assumption) (by simp only [cells5]; k_allIn) (exI10 _ _ _ _ _ _ _ _ _ _ ⟨rfl, rfl, by assumption, (menu_rng (by assumption) (by assumption)).1, (menu_rng (by assumption) (by assumption)).2, by assumption, by assumption, by assumption, by assumption, by omega⟩)
    case rest2 =>
      intro h' tk m' led F₁ N₁ hz
      refine ex10 hz ?_
      intro gg x c t u z n o2' lw tl z9p
      clear hz
      refine and10 z9p ?_
      clear z9p
      intro e1 z9e1 dl l1 l2 j1 j2 j3 j4 j5
      subst z9e1
      have F₃ := fr_lit [(Str.ofString "free", .int f tf)] (List.forall_mem_cons.mpr ⟨e1, List.forall_mem_nil _⟩) F₁
      clear F₁ F₂ d2
      dsimp only [kstB] at F₃
      dsimp only [cells5] at N₁
      k_steps
      refine stop_on ?_
      refine' src_range (n := 4) rfl (by assumption) ?small ?size (fun it s₂ S => comp_of (nx₀ := (jar, jarO gg x c t u z n) :: cells5 L o5 o4 o3 o2' o1') (drawJ jar 1 (cells5 L o5 o4 o3 o2' o1') lw) S ?hsz (by assumption) (news_sub (by assumption) ?sub) ?h0 (fun _ h => nomatch h) ?turn ?done)
      case small => decide
      case size => decide
      case sub => (simp only [cells5, jarO]; k_allIn)
      case hsz => (rw [sizeLine_eq]; omega)
      case h0 => exact ⟨_, _, _, _, _, _, _, j1, j2, j3, j4, by omega, rfl, [], IntsAre.nil, rfl, fun _ h => nomatch h⟩
      case turn =>
        intro i v ys nx h tk C D oC cnt own mC hi' hP hys h1o h2o hCD h3o hJ F₄ N₄ nsC
        refine (let G : Prop := _; (?_ : G))
        refine ex7 hJ ?_
        intro g3 mx3 c3 v1 v2 v3 n3 z9p
        clear hJ
        refine and7 z9p ?_
        clear z9p
        intro r1 r2 r3 r4 r5 z9e5 z9t
        obtain ⟨ms, hms, hml, hma⟩ := z9t
        subst z9e5
        simp only [List.cons_append, List.nil_append, List.map_cons, List.map_nil, jarO, cells5] at h1o h3o; (try dsimp only [List.cons_append, List.nil_append, List.map_cons, List.map_nil, jarO, cells5] at N₄)
        have y2 := far_one h3o (.head _) (.head _)
        have y3 := far_one h3o (.tail _ (.head _)) (.head _)
        obtain ⟨tk, rfl⟩ := hP
        (try clear N₁)
        (try clear F₃)
        k_unmd
        k_unfold
        try k_unmd
        k_fold
        k_steps
        (try dsimp only)
        exact draw_end (cells5 L o5 o4 o3 o2' o1') (by assumption) (by assumption) h1o h3o (by assumption) (by assumption) (by assumption) (by assumption) (by omega) hms hml hma (by omega) (by omega)
      case done =>
        intro D ys cnt nx h' tk F₄ N₄ hoff hys hJ
        refine (let G : Prop := _; (?_ : G))
        refine ex7 hJ ?_
        intro g3 mx3 c3 v1 v2 v3 n3 z9p
        clear hJ
        refine and7 z9p ?_
        clear z9p
        intro r1 r2 r3 r4 r5 z9e5 z9t
        obtain ⟨fs1, hfs1, hfl1, hfa1⟩ := z9t
        subst z9e5
        have hfa : ∀ x ∈ fs1, 1 ≤ x := fun x hx => by have := hfa1 x hx; omega
        have yD : Far D [jar, L + 1 + 1 + 1 + 1 + 1, L + 1 + 1 + 1 + 1, L + 1 + 1 + 1] := far_cons (hoff _ (.head _) D (.head _)).symm (far_cons (hoff _ (.tail _ (.head _)) D (.head _)).symm (far_cons (hoff _ (.tail _ (.tail _ (.head _))) D (.head _)).symm (far_cons (hoff _ (.tail _ (.tail _ (.tail _ (.head _)))) D (.head _)).symm (far_nil _))))
        dsimp only [jarO, cells5] at N₄
        have hFM : FreeMark := trivial
        k_unmd
        k_unfold
        k_steps
        refine stop_on ?_
        rename FreeMark => hz
        clear hz
        refine cut_L (g := s1.heap) (L := L) (fun m led => ∃ gg x c t u z n o3 se svs sn ss, m (Str.ofString "free") = some (.int f tf) ∧ m (Str.ofString "second") = some (.ref se) ∧ led = (jar, listOf #[Value.int gg t, .int x u, .int c z] n) :: (D, listOf (List.toArray ys) cnt) :: (se, listOf (List.toArray svs) sn) :: cells5 L o5 o4 o3 o2' o1' ∧ o3.data = Data.cell (some (Value.ref D)) ∧ IntsAre svs ss ∧ ss.length = 4 ∧ (∀ x ∈ ss, 1 ≤ x) ∧ Far se [jar, L + 1 + 1 + 1 + 1 + 1, L + 1 + 1 + 1 + 1] ∧ 0 ≤ gg ∧ 0 ≤ x ∧ x < 10007 ∧ 0 ≤ c ∧ c ≤ 20) ?sec ?rest3
        case sec =>
          k_steps
          (try dsimp only)
          refine lpost (_ :: _ :: _ :: cells5 L o5 o4 _ o2' o1') (by assumption) (by assumption) (by simp only [cells5]; k_allIn) (exI12 _ _ _ _ _ _ _ _ _ _ _ _ ⟨rfl, rfl, rfl, by assumption, by assumption, by assumption, by assumption, far_cons (neN (by omega)) (far_cons (neN (by omega)) (far_cons (neN (by omega)) (far_nil _))), by assumption, by assumption, by assumption, by assumption, by omega⟩)
        case rest3 =>
          intro h' tk m' led F₁ N₁ hz
          refine ex12 hz ?_
          intro gg x c t u z n o3' se svs sn ss z9p
          clear hz
          refine and13 z9p ?_
          clear z9p
          intro e1 e2 z9e2 df hss hsl hsa ySe j1 j2 j3 j4 j5
          subst z9e2
          have F₅ := fr_lit [(Str.ofString "free", .int f tf), (Str.ofString "second", .ref se)] (List.forall_mem_cons.mpr ⟨e1, List.forall_mem_cons.mpr ⟨e2, List.forall_mem_nil _⟩⟩) F₁
          clear F₁
          (try clear N₄)
          (try clear F₄)
          dsimp only [kstB] at F₅
          dsimp only [cells5] at N₁
          have hFM : FreeMark := trivial
          k_steps
          refine stop_on ?_
          rename FreeMark => hz
          clear hz
          refine cut_L (g := s1.heap) (L := L) (fun m led => ∃ gg x c t u z n fl fvs fn ff, m (Str.ofString "second") = some (.ref se) ∧ m (Str.ofString "fars") = some (.ref fl) ∧ led = (jar, listOf #[Value.int gg t, .int x u, .int c z] n) :: (D, listOf (List.toArray ys) cnt) :: (se, listOf (List.toArray svs) sn) :: (fl, listOf (List.toArray fvs) fn) :: cells5 L o5 o4 o3' o2' o1' ∧ IntsAre fvs ff ∧ ff.length ≤ 15 ∧ (∀ x ∈ ff, 1 ≤ x) ∧ Far fl [jar, L + 1 + 1 + 1 + 1 + 1, L + 1 + 1 + 1 + 1] ∧ 0 ≤ gg ∧ 0 ≤ x ∧ x < 10007 ∧ 0 ≤ c ∧ c ≤ 60) ?fars ?rest4
          case fars =>
            k_steps
            (try dsimp only)
            refine lpost (_ :: _ :: _ :: _ :: cells5 L o5 o4 o3' o2' o1') (by assumption) (by assumption) (by simp only [cells5]; k_allIn) (exI11 _ _ _ _ _ _ _ _ _ _ _ ⟨rfl, rfl, rfl, by assumption, by assumption, by assumption, far_cons (neN (by omega)) (far_cons (neN (by omega)) (far_cons (neN (by omega)) (far_nil _))), by assumption, by assumption, by assumption, by assumption, by omega⟩)
          case rest4 =>
            intro h' tk m' led F₁ N₁ hz
            refine ex11 hz ?_
            intro gg x c t u z n fl fvs fn ff z9p
            clear hz
            refine and12 z9p ?_
            clear z9p
            intro e2 e3 z9e2 hff hfl hfa2 yFl j1 j2 j3 j4 j5
            subst z9e2
            have F₆ := fr_lit [(Str.ofString "second", .ref se), (Str.ofString "fars", .ref fl)] (List.forall_mem_cons.mpr ⟨e2, List.forall_mem_cons.mpr ⟨e3, List.forall_mem_nil _⟩⟩) F₁
            clear F₁
            (try clear F₅)
            dsimp only [kstB] at F₆
            dsimp only [cells5] at N₁
            have hfv := hff.length
            k_steps
            refine stop_on ?_
            refine' src_list (items := List.toArray fvs) rfl ?lst5 (fun it s₂ S => comp_of (nx₀ := (jar, listOf #[Value.int gg t, .int x u, .int c z] n) :: ([(D, listOf (List.toArray ys) cnt), (se, listOf (List.toArray svs) sn), (fl, listOf (List.toArray fvs) fn), (L + 1 + 1 + 1 + 1 + 1, o5), (L + 1 + 1 + 1 + 1, o4), (L + 1 + 1 + 1, o3'), (L + 1 + 1, o2'), (L + 1, o1')] ++ ([] : List (Addr × Obj)))) (runJ jar 60 ([(D, listOf (List.toArray ys) cnt), (se, listOf (List.toArray svs) sn), (fl, listOf (List.toArray fvs) fn), (L + 1 + 1 + 1 + 1 + 1, o5), (L + 1 + 1 + 1 + 1, o4), (L + 1 + 1 + 1, o3'), (L + 1 + 1, o2'), (L + 1, o1')]) ([] : List (Addr × Obj)) [jar, L + 1 + 1 + 1 + 1 + 1, L + 1 + 1 + 1 + 1] (fun p => (p.1 = 1 ∨ p.1 = 2) ∧ 1 ≤ p.2)) S ?hsz5 (by assumption) (news_sub (by assumption) ?sub5) ?h05 ?hrd5 ?turn5 ?done5)
            case lst5 => exact ⟨_, got_news (by k_asm) (by k_mem), rfl, _, rfl⟩
            case sub5 => k_extra "sub"
            case hsz5 => (rw [sizeLine_eq]; simp only [List.size_toArray]; omega)
            case h05 => exact ⟨_, _, _, _, _, _, _, [], [], j1, j2, j3, j4, by omega, rfl, off_nil _, Are.nil, rfl, fun _ h => nomatch h⟩
            case hrd5 => exact List.forall_mem_cons.mpr ⟨.inr ⟨listOf (List.toArray fvs) fn, fun j ys nx h => by obtain ⟨_, _, _, _, _, _, _, _, _, _, _, _, _, _, e, _⟩ := h; rw [e]; simp⟩, List.forall_mem_nil _⟩
            case turn5 =>
              intro i v ys5 nx h tk C Dc oC cnt5 own mC hi hP hys h1o h2o hCD h3o hJ F₇ N₇ nsC
              refine (let G : Prop := _; (?_ : G))
              refine ex9 hJ ?_
              intro g3 mx3 c3 v1 v2 v3 n3 tnx ps z9p
              clear hJ
              refine and10 z9p ?_
              clear z9p
              intro r1 r2 r3 r4 r5 z9e5 ht hps hpl hpo
              subst z9e5
              obtain ⟨y, ty, rfl, hy⟩ := ints_at hff (by simpa using hP)
              have hy1 := hfa2 y (List.mem_of_getElem? hy)
              have hi15 : i < 16 := by simp only [List.size_toArray] at hi; omega
              obtain ⟨own4, h4⟩ : ∃ o, o = (tnx ++ ([] : List (Addr × Obj))) ++ own := ⟨_, rfl⟩
              have O₄ : OwnOff own4 [jar] := by
                subst h4
                intro p hp b hb
                rw [List.mem_singleton.mp hb]
                rcases List.mem_append.mp hp with hp | hp
                · rcases List.mem_append.mp hp with hp | hp
                  · exact ht p hp _ (.head _)
                  · exact nomatch hp
                · exact h1o p hp _ (.head _)
              have yC := far_one h3o (.head _) (.head _)
              have yDc := far_one h3o (.tail _ (.head _)) (.head _)
              have N₈ : News s1.heap L h ((C, oC) :: (Dc, listOf (List.toArray ys5) cnt5) :: (jar, listOf #[Value.int g3 v1, .int mx3 v2, .int c3 v3] n3) :: ([(D, listOf (List.toArray ys) cnt), (se, listOf (List.toArray svs) sn), (fl, listOf (List.toArray fvs) fn), (L + 1 + 1 + 1 + 1 + 1, o5), (L + 1 + 1 + 1 + 1, o4), (L + 1 + 1 + 1, o3'), (L + 1 + 1, o2'), (L + 1, o1')] ++ own4)) := run_open N₇ h4
              clear N₇
              dsimp only [List.cons_append, List.nil_append] at N₈
              k_unmd
              k_unfold
              try k_unmd
              k_fold
              k_steps
              (try dsimp only)
              exact run_endR (ex := [(D, listOf (List.toArray ys) cnt), (se, listOf (List.toArray svs) sn), (fl, listOf (List.toArray fvs) fn), (L + 1 + 1 + 1 + 1 + 1, o5), (L + 1 + 1 + 1 + 1, o4), (L + 1 + 1 + 1, o3'), (L + 1 + 1, o2'), (L + 1, o1')]) (by assumption) (by assumption) (by assumption) h4 h1o h3o (fun hall b hb => by
                simp only [List.mem_cons, List.not_mem_nil, or_false] at hb
                rcases hb with rfl | rfl | rfl
                · exact hall _ (.tail _ (.tail _ (.head _)))
                · exact hall _ (.tail _ (.tail _ (.tail _ (.tail _ (.tail _ (.tail _ (.head _)))))))
                · exact hall _ (.tail _ (.tail _ (.tail _ (.tail _ (.tail _ (.tail _ (.tail _ (.head _))))))))) (by assumption) (by assumption) (by assumption) (by assumption) (by omega) ht hps hpl hpo (⟨by dsimp only; omega, hy1⟩)
            case done5 =>
              intro rl rvs rn nx h' tk F₈ N₈ hoff5 hrl5 hJ5
              refine (let G : Prop := _; (?_ : G))
              refine ex9 hJ5 ?_
              intro g5 mx5 c5 v1 v2 v3 n5 tnx5 ps5 z9p
              clear hJ5
              refine and10 z9p ?_
              clear z9p
              intro k1 k2 k3 k4 k5 z9e5 ht5 hps5 hpl5 hpo5
              subst z9e5
              simp only [List.append_nil, List.cons_append, List.nil_append] at N₈ hoff5
              simp only [List.size_toArray] at k5
              have yRl : Far rl [jar, L + 1 + 1 + 1 + 1 + 1, L + 1 + 1 + 1 + 1] := far_cons (hoff5 _ (.head _) rl (.head _)).symm (far_cons (hoff5 _ (.tail _ (.tail _ (.tail _ (.tail _ (.head _))))) rl (.head _)).symm (far_cons (hoff5 _ (.tail _ (.tail _ (.tail _ (.tail _ (.tail _ (.head _)))))) rl (.head _)).symm (far_nil _)))
              have hFM : FreeMark := trivial
              k_unmd
              k_unfold
              k_steps
              refine stop_on ?_
              rename FreeMark => hz
              clear hz
              rename PySem.Obj => o4'
              rename _ = Data.cell (some (Value.ref rl)) => d4'
              k_steps
              refine stop_on ?_
              refine' src_list (items := List.toArray fvs) rfl ?lst6 (fun it s₂ S => comp_of (nx₀ := (jar, listOf #[Value.int g5 v1, .int mx5 v2, .int c5 v3] n5) :: ([(D, listOf (List.toArray ys) cnt), (se, listOf (List.toArray svs) sn), (fl, listOf (List.toArray fvs) fn), (rl, listOf (List.toArray rvs) rn), (L + 1 + 1 + 1 + 1 + 1, o5), (L + 1 + 1 + 1 + 1, o4'), (L + 1 + 1 + 1, o3'), (L + 1 + 1, o2'), (L + 1, o1')] ++ tnx5)) (runJ jar 90 ([(D, listOf (List.toArray ys) cnt), (se, listOf (List.toArray svs) sn), (fl, listOf (List.toArray fvs) fn), (rl, listOf (List.toArray rvs) rn), (L + 1 + 1 + 1 + 1 + 1, o5), (L + 1 + 1 + 1 + 1, o4'), (L + 1 + 1 + 1, o3'), (L + 1 + 1, o2'), (L + 1, o1')]) tnx5 [jar, L + 1 + 1 + 1 + 1 + 1, L + 1 + 1 + 1 + 1] (fun p => (0 ≤ p.1 ∧ p.1 ≤ 1) ∧ 1 ≤ p.2)) S ?hsz6 (by assumption) (news_sub (by assumption) ?sub6) ?h06 ?hrd6 ?turn6 ?done6)
              case lst6 => exact ⟨_, got_news (by k_asm) (by k_mem), rfl, _, rfl⟩
              case sub6 => k_extra "sub"
              case hsz6 => (rw [sizeLine_eq]; simp only [List.size_toArray]; omega)
              case h06 => exact ⟨_, _, _, _, _, _, _, [], [], k1, k2, (by assumption), k4, by omega, rfl, off_nil _, Are.nil, rfl, fun _ h => nomatch h⟩
              case hrd6 => exact List.forall_mem_cons.mpr ⟨.inr ⟨listOf (List.toArray fvs) fn, fun j ys nx h => by obtain ⟨_, _, _, _, _, _, _, _, _, _, _, _, _, _, e, _⟩ := h; rw [e]; simp⟩, List.forall_mem_nil _⟩
              case turn6 =>
                intro i v ys5 nx h tk C Dc oC cnt5 own mC hi hP hys h1o h2o hCD h3o hJ F₇ N₇ nsC
                refine (let G : Prop := _; (?_ : G))
                refine ex9 hJ ?_
                intro g3 mx3 c3 v1 v2 v3 n3 tnx ps z9p
                clear hJ
                refine and10 z9p ?_
                clear z9p
                intro r1 r2 r3 r4 r5 z9e5 ht hps hpl hpo
                subst z9e5
                obtain ⟨y, ty, rfl, hy⟩ := ints_at hff (by simpa using hP)
                have hy1 := hfa2 y (List.mem_of_getElem? hy)
                have hi15 : i < 16 := by simp only [List.size_toArray] at hi; omega
                obtain ⟨own4, h4⟩ : ∃ o, o = (tnx ++ tnx5) ++ own := ⟨_, rfl⟩
                have O₄ : OwnOff own4 [jar] := by
                  subst h4
                  intro p hp b hb
                  rw [List.mem_singleton.mp hb]
                  rcases List.mem_append.mp hp with hp | hp
                  · rcases List.mem_append.mp hp with hp | hp
                    · exact ht p hp _ (.head _)
                    · exact ht5 p hp _ (.head _)
                  · exact h1o p hp _ (.head _)
                have yC := far_one h3o (.head _) (.head _)
                have yDc := far_one h3o (.tail _ (.head _)) (.head _)
                have N₈ : News s1.heap L h ((C, oC) :: (Dc, listOf (List.toArray ys5) cnt5) :: (jar, listOf #[Value.int g3 v1, .int mx3 v2, .int c3 v3] n3) :: ([(D, listOf (List.toArray ys) cnt), (se, listOf (List.toArray svs) sn), (fl, listOf (List.toArray fvs) fn), (rl, listOf (List.toArray rvs) rn), (L + 1 + 1 + 1 + 1 + 1, o5), (L + 1 + 1 + 1 + 1, o4'), (L + 1 + 1 + 1, o3'), (L + 1 + 1, o2'), (L + 1, o1')] ++ own4)) := run_open N₇ h4
                clear N₇
                dsimp only [List.cons_append, List.nil_append] at N₈
                k_unmd
                k_unfold
                try k_unmd
                k_fold
                k_steps
                (try dsimp only)
                exact run_endR (ex := [(D, listOf (List.toArray ys) cnt), (se, listOf (List.toArray svs) sn), (fl, listOf (List.toArray fvs) fn), (rl, listOf (List.toArray rvs) rn), (L + 1 + 1 + 1 + 1 + 1, o5), (L + 1 + 1 + 1 + 1, o4'), (L + 1 + 1 + 1, o3'), (L + 1 + 1, o2'), (L + 1, o1')]) (by assumption) (news_drop2 (by assumption)) (And.right (by assumption)) h4 h1o h3o (fun hall b hb => by
                  simp only [List.mem_cons, List.not_mem_nil, or_false] at hb
                  rcases hb with rfl | rfl | rfl
                  · exact hall _ (.tail _ (.tail _ (.head _)))
                  · exact hall _ (.tail _ (.tail _ (.tail _ (.tail _ (.tail _ (.tail _ (.tail _ (.head _))))))))
                  · exact hall _ (.tail _ (.tail _ (.tail _ (.tail _ (.tail _ (.tail _ (.tail _ (.tail _ (.head _)))))))))) (by assumption) (by assumption) (by assumption) (by assumption) (by omega) ht hps hpl hpo (⟨menu4_rng (by assumption) (by assumption), hy1⟩)
              case done6 =>
                intro bl bvs bn nx h' tk F₉ N₉ hoff6 hbl hJ6
                refine (let G : Prop := _; (?_ : G))
                refine ex9 hJ6 ?_
                intro g6 mx6 c6 w1 w2 w3 n6 tnx6 ps6 z9p
                clear hJ6
                refine and10 z9p ?_
                clear z9p
                intro k1 k2 k3 k4 k5 z9e5 ht6 hps6 hpl6 hpo6
                subst z9e5
                simp only [List.append_nil, List.cons_append, List.nil_append] at N₉ hoff6
                have yBl : Far bl [L + 1 + 1 + 1 + 1 + 1] := far_cons (hoff6 _ (.tail _ (.tail _ (.tail _ (.tail _ (.tail _ (.head _)))))) bl (.head _)).symm (far_nil _)
                obtain ⟨t0, ht0⟩ : ∃ o, o = tnx6 ++ tnx5 := ⟨_, rfl⟩
                have O₀ : OwnOff t0 [jar, L + 1 + 1 + 1 + 1 + 1, L + 1 + 1 + 1 + 1] := by
                  subst ht0
                  intro p hp b hb
                  rcases List.mem_append.mp hp with hp | hp
                  · exact ht6 p hp b hb
                  · exact ht5 p hp b hb
                rw [← ht0] at N₉
                simp only [List.size_toArray] at hpl5 hpl6 hrl5 hbl
                have hrvl : rvs.length = fvs.length := hrl5
                have hFM : FreeMark := trivial
                k_unmd
                k_unfold
                k_steps
                refine stop_on ?_
                rename PySem.Obj => o5'
                rename _ = Data.cell (some (Value.ref bl)) => d5'
                k_steps
                refine stop_on ?_
                refine' src_upto rfl (by assumption) (by omega) (by omega) (fun nn it s₂ hnn S => comp_of (nx₀ := [(bl, listOf (List.toArray bvs) bn), (jar, listOf #[Value.int g6 w1, .int mx6 w2, .int c6 w3] n6), (D, listOf (List.toArray ys) cnt), (se, listOf (List.toArray svs) sn), (fl, listOf (List.toArray fvs) fn), (rl, listOf (List.toArray rvs) rn), (L + 1 + 1 + 1 + 1 + 1, o5'), (L + 1 + 1 + 1 + 1, o4'), (L + 1 + 1 + 1, o3'), (L + 1 + 1, o2'), (L + 1, o1')] ++ t0) (latesJ [(bl, listOf (List.toArray bvs) bn), (jar, listOf #[Value.int g6 w1, .int mx6 w2, .int c6 w3] n6), (D, listOf (List.toArray ys) cnt), (se, listOf (List.toArray svs) sn), (fl, listOf (List.toArray fvs) fn), (rl, listOf (List.toArray rvs) rn), (L + 1 + 1 + 1 + 1 + 1, o5'), (L + 1 + 1 + 1 + 1, o4'), (L + 1 + 1 + 1, o3'), (L + 1 + 1, o2'), (L + 1, o1')] t0 fun j => lateF (ps5.take j)) S ?hsz7 (by assumption) (news_sub (by assumption) ?sub7) ?h07 (fun _ h => nomatch h) ?turn7 ?done7)
                case sub7 => (simp only [List.cons_append, List.nil_append]; exact fun p hp => hp)
                case hsz7 => (rw [sizeLine_eq]; omega)
                case h07 => exact ⟨[], rfl, Are.nil⟩
                case turn7 =>
                  intro i v ys7 nx h tk C Dc oC cnt7 own mC hi hP hys h1o h2o hCD h3o hJ F₁₀ N₁₀ nsC
                  refine (let G : Prop := _; (?_ : G))
                  obtain ⟨rnx, rfl, hrn⟩ := hJ
                  obtain ⟨tv, rfl⟩ := hP
                  obtain ⟨own4, h4⟩ : ∃ o, o = (rnx ++ t0) ++ own := ⟨_, rfl⟩
                  have N₁₁ := new_open N₁₀ h4
                  have hps7 : Are (PairIn own4) rvs ps5 := hps5.mono fun v p x => x.more fun q hq => by rw [h4, ht0]; simp [hq]
                  clear N₁₀
                  dsimp only [List.cons_append, List.nil_append] at N₁₁
                  have hSM : SliceMark := trivial
                  k_unmd
                  k_unfold
                  try k_unmd
                  k_fold
                  k_steps
                  (try dsimp only)
                  rename IntsAre _ (lateF _) => hz
                  rw [show ((0 : Int) + (i : Int) * 1).toNat = i from by omega] at hz
                  exact new_end (ex := [(bl, listOf (List.toArray bvs) bn), (jar, listOf #[Value.int g6 w1, .int mx6 w2, .int c6 w3] n6), (D, listOf (List.toArray ys) cnt), (se, listOf (List.toArray svs) sn), (fl, listOf (List.toArray fvs) fn), (rl, listOf (List.toArray rvs) rn), (L + 1 + 1 + 1 + 1 + 1, o5'), (L + 1 + 1 + 1 + 1, o4'), (L + 1 + 1 + 1, o3'), (L + 1 + 1, o2'), (L + 1, o1')]) (by assumption) (news_drop2 (by assumption)) (And.right (by assumption)) h4 h1o h3o ⟨_, rfl, lates_snoc hrn hz⟩
                case done7 =>
                  intro lt lvs ln nx h' tk F₁₁ N₁₁ hoff7 hlv hJ7
                  refine (let G : Prop := _; (?_ : G))
                  obtain ⟨rnx, rfl, hrn⟩ := hJ7
                  obtain ⟨tl, htl⟩ : ∃ o, o = rnx ++ t0 := ⟨_, rfl⟩
                  rw [← htl] at N₁₁
                  simp only [List.cons_append, List.nil_append] at hoff7; (try dsimp only [List.cons_append, List.nil_append] at N₁₁)
                  have hps5' : Are (PairIn tl) rvs ps5 := hps5.mono fun v p x => x.more fun q hq => by rw [htl, ht0]; simp [hq]
                  have hps6' : Are (PairIn tl) bvs ps6 := hps6.mono fun v p x => x.more fun q hq => by rw [htl, ht0]; simp [hq]
                  have hrn' : LstIn tl lvs ((List.range nn).map fun j => lateF (ps5.take j)) := hrn.more fun q hq => by rw [htl]; simp [hq]
                  clear hps5 hps6 hrn
                  rename FreeMark => hz
                  clear hz
                  k_unmd
                  k_unfold
                  k_steps
                  refine stop_on ?_
                  refine src_two rfl (by assumption) (by k_mem) (fun it s₂ S => loop_two (fun m => m (Str.ofString "lates") = some (.ref lt)) S (by assumption) (by assumption) (by k_mem) rfl ?turn8 ?done8)
                  case turn8 =>
                    intro i v m₁ h tk own hi hP hoff hR₁ F₁₂ N₁₂
                    refine (let G : Prop := _; (?_ : G))
                    obtain ⟨own4, h4⟩ : ∃ o, o = tl ++ own := ⟨_, rfl⟩
                    dsimp only [List.cons_append, List.nil_append] at N₁₂
                    rw [← h4] at N₁₂
                    have hps8 : Are (PairIn own4) rvs ps5 := hps5'.mono fun v p x => x.more fun q hq => by rw [h4]; simp [hq]
                    have hrn8 : LstIn own4 lvs ((List.range nn).map fun j => lateF (ps5.take j)) := hrn'.more fun q hq => by rw [h4]; simp [hq]
                    have hp99 : ps5.length < 100 := by omega
                    have hrun : ∀ p ∈ ps5, (p.1 = 1 ∨ p.1 = 2) ∧ 1 ≤ p.2 := hpo5
                    have hlt1 : ((List.range nn).map fun j => lateF (ps5.take j)).length = ps5.length + 1 := by simp only [List.length_map, List.length_range]; omega
                    have hlt2 : ∀ l ∈ (List.range nn).map fun j => lateF (ps5.take j), l.length < 900 := lates_len (f := fun j => ps5.take j) fun i hi => by simp only [List.length_take]; omega
                    have hlt3 := lates_get (f := fun j => ps5.take j) (n := nn)
                    have hA3 : (List.take 3 fs1).length = 3 := by simp only [List.length_take]; omega
                    have hB3 : (List.take 3 ss).length = 3 := by simp only [List.length_take]; omega
                    have hA1 : ∀ x ∈ List.take 3 fs1, 1 ≤ x := fun x hx => hfa x (List.mem_of_mem_take hx)
                    have hB1 : ∀ x ∈ List.take 3 ss, 1 ≤ x := fun x hx => hsa x (List.mem_of_mem_take hx)
                    have o1 := offL_run (bs := List.take 3 fs1) (os := List.take 3 ss) hrun hB1 hlt1 hlt3
                    have o2 := offL_run (bs := List.take 3 ss) (os := List.take 3 fs1) hrun hA1 hlt1 hlt3
                    have o3 := repOk_run (bs := fs1) (os := ss) hfl1 hsl hrun hlt1 hlt3
                    have o4 := repOk_run (bs := ss) (os := fs1) hsl hfl1 hrun hlt1 hlt3
                    have F₁₃ := fr_lit [(Str.ofString "lates", .ref lt)] (List.forall_mem_cons.mpr ⟨hR₁, List.forall_mem_nil _⟩) F₁₂
                    clear F₁₂ hps5' hps6' hrn' hlt3
                    dsimp only [kstB] at F₁₃
                    k_unmd
                    k_unfold
                    rcases hP with ⟨rfl, rfl⟩ | ⟨rfl, rfl⟩
                    all_goals
                      try k_unmd
                      k_fold
                      k_steps
                      (try dsimp only)
                      refine two_end (by assumption) (by assumption) hoff ?_ rfl
                      subst h4
                      k_extra "sub"
                  case done8 =>
                    intro h' tk m' hR₁ F₁₂ N₁₂
                    refine (let G : Prop := _; (?_ : G))
                    obtain ⟨b0, hb0⟩ : ∃ b, fs1[0]? = some b := ⟨_, List.getElem?_eq_getElem (by omega)⟩
                    obtain ⟨tb, hy0⟩ := ints_of hfs1 hb0
                    have hy0' : ys[((0 : Int)).toNat]? = some (.int b0 tb) := hy0
                    have hbv : bvs.length = fvs.length := hbl
                    have N₁₃ : News s1.heap L h' ([(bl, listOf (List.toArray bvs) bn), (D, listOf (List.toArray ys) cnt), (L + 1 + 1 + 1 + 1 + 1, o5'), (L + 1 + 1 + 1 + 1, o4'), (L + 1 + 1 + 1, o3'), (L + 1 + 1, o2'), (L + 1, o1')] ++ tl) := news_sub N₁₂ (by k_extra "sub")
                    have F₁₃ := fr_lit [(Str.ofString "lates", .ref lt)] (List.forall_mem_cons.mpr ⟨hR₁, List.forall_mem_nil _⟩) F₁₂
                    clear F₁₂ N₁₂ hrn' hps5' hy0
                    (try clear F₁₁)
                    (try clear N₁₁)
                    dsimp only [kstB] at F₁₃
                    dsimp only [List.cons_append, List.nil_append] at N₁₃
                    k_unmd
                    k_unfold
                    k_steps
                    refine stop_on ?_
                    refine' src_upto rfl (by assumption) (by omega) (by omega) (fun nn2 it s₂ hnn2 S => comp_of (nx₀ := [(bl, listOf (List.toArray bvs) bn), (D, listOf (List.toArray ys) cnt), (L + 1 + 1 + 1 + 1 + 1, o5'), (L + 1 + 1 + 1 + 1, o4'), (L + 1 + 1 + 1, o3'), (L + 1 + 1, o2'), (L + 1, o1')] ++ tl) (latesJ [(bl, listOf (List.toArray bvs) bn), (D, listOf (List.toArray ys) cnt), (L + 1 + 1 + 1 + 1 + 1, o5'), (L + 1 + 1 + 1 + 1, o4'), (L + 1 + 1 + 1, o3'), (L + 1 + 1, o2'), (L + 1, o1')] tl fun j => lateF ((1, b0) :: ps6.take j)) S ?hsz9 (by assumption) (news_sub (by assumption) ?sub9) ?h09 (fun _ h => nomatch h) ?turn9 ?done9)
                    case sub9 => k_extra "sub"
                    case hsz9 => (rw [sizeLine_eq]; omega)
                    case h09 => exact ⟨[], rfl, Are.nil⟩
                    case turn9 =>
                      intro i v ys9 nx h tk C Dc oC cnt9 own mC hi hP hys h1o h2o hCD h3o hJ F₁₄ N₁₄ nsC
                      refine (let G : Prop := _; (?_ : G))
                      obtain ⟨rnx9, rfl, hrn9⟩ := hJ
                      obtain ⟨tv, rfl⟩ := hP
                      obtain ⟨own4, h4⟩ : ∃ o, o = (rnx9 ++ tl) ++ own := ⟨_, rfl⟩
                      have N₁₅ := new_open N₁₄ h4
                      have hps9 : Are (PairIn own4) bvs ps6 := hps6'.mono fun v p x => x.more fun q hq => by rw [h4]; simp [hq]
                      clear N₁₄ hps6'
                      dsimp only [List.cons_append, List.nil_append] at N₁₅
                      have hSM : SliceMark := trivial
                      have hAM : AddMark := trivial
                      k_unmd
                      k_unfold
                      try k_unmd
                      k_fold
                      k_steps
                      (try dsimp only)
                      rename IntsAre _ (lateF _) => hz
                      rw [show ((0 : Int) + (i : Int) * 1).toNat = i from by omega] at hz
                      exact new_end (ex := [(bl, listOf (List.toArray bvs) bn), (D, listOf (List.toArray ys) cnt), (L + 1 + 1 + 1 + 1 + 1, o5'), (L + 1 + 1 + 1 + 1, o4'), (L + 1 + 1 + 1, o3'), (L + 1 + 1, o2'), (L + 1, o1')]) (by assumption) (news_drop5 (by assumption)) (And.right (And.right (And.right (And.right (by assumption))))) h4 h1o h3o ⟨_, rfl, lates_snoc (f := fun j => lateF ((1, b0) :: ps6.take j)) hrn9 hz⟩
                    case done9 =>
                      intro l2 l2vs l2n nx h' tk F₁₅ N₁₅ hoff9 hlv9 hJ9
                      refine (let G : Prop := _; (?_ : G))
                      obtain ⟨rnx9, rfl, hrn9⟩ := hJ9
                      obtain ⟨tz, htz⟩ : ∃ o, o = rnx9 ++ tl := ⟨_, rfl⟩
                      rw [← htz] at N₁₅
                      simp only [List.cons_append, List.nil_append] at hoff9; (try dsimp only [List.cons_append, List.nil_append] at N₁₅)
                      have hps9 : Are (PairIn tz) bvs ps6 := hps6'.mono fun v p x => x.more fun q hq => by rw [htz]; simp [hq]
                      have hrn8 : LstIn tz l2vs ((List.range nn2).map fun j => lateF ((1, b0) :: ps6.take j)) := hrn9.more fun q hq => by rw [htz]; simp [hq]
                      have hp99 : ps6.length < 100 := by omega
                      have hrun : ∀ p ∈ ps6, (0 ≤ p.1 ∧ p.1 ≤ 1) ∧ 1 ≤ p.2 := hpo6
                      have hlt1 : ((List.range nn2).map fun j => lateF ((1, b0) :: ps6.take j)).length = ps6.length + 1 := by simp only [List.length_map, List.length_range]; omega
                      have hlt2 : ∀ l ∈ (List.range nn2).map fun j => lateF ((1, b0) :: ps6.take j), l.length < 900 := lates_len (f := fun j => (1, b0) :: ps6.take j) fun i hi => by simp only [List.length_cons, List.length_take]; omega
                      have hlt3 := lates_get (f := fun j => (1, b0) :: ps6.take j) (n := nn2)
                      have hA3 : (List.take 3 fs1).length = 3 := by simp only [List.length_take]; omega
                      have hA1 : ∀ x ∈ List.take 3 fs1, 1 ≤ x := fun x hx => hfa x (List.mem_of_mem_take hx)
                      have o1 := offL_bare (bs := List.take 3 fs1) (head_take3 hb0) hrun hlt1 hlt3
                      clear hps6' hlt3 hrn9
                      (try clear F₁₃)
                      (try clear N₁₃)
                      k_unmd
                      k_unfold
                      k_steps)

end Mine
theorem PySem.Challenge.cw_tk0119_01_holds : PySem.Challenge.rw_tk0119_01.Holds :=
  Mine.law_holds
