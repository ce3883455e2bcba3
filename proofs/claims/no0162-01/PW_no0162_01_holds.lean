import PyProof.Rows.All
import Wide.All
import OpenK.AllK
import Wide.FinOn
import PySem.Challenge.RW_no0162_01
set_option Elab.async false
section
open PySem PySem.W
set_option maxRecDepth 100000
set_option maxHeartbeats 8000000
namespace Mine
/-- a statement of the text; within a class, its j-th -/
noncomputable def stAt (i j : Nat) : Stmt := match PySem.Challenge.pw_no0162_01.main.body.getD i (.Pass default) with
  | .ClassDef _ _ _ b _ _ _ _ _ _ _ => b.getD j (.Pass default)
  | s => s
noncomputable def aP (i j : Nat) : Arguments := match stAt i j with
  | .FunctionDef _ a _ _ _ _ _ _ _ _ => a
  | _ => { posonlyargs := [], args := [], vararg := none, kwonlyargs := [], kw_defaults := [], kwarg := none, defaults := [] }
noncomputable def aB (i j : Nat) : List Stmt := match stAt i j with
  | .FunctionDef _ _ b _ _ _ _ _ _ _ => b
  | _ => []
noncomputable def aS (i j : Nat) : Scope := match stAt i j with
  | .FunctionDef _ _ _ _ _ _ s _ _ _ => s
  | _ => { kind := .module, names := [], isGenerator := false, isCoroutine := false }
noncomputable def KF (P : Params) : Frag := [
(2, { cls := Value.none, data := Data.dict #[{ hash := PyData.keyHash P (Str.ofString "type.__subclasses__.Exception.0"), key := Value.str (Str.ofString "type.__subclasses__.Exception.0") 212, val := Value.int 31 0 }, { hash := PyData.keyHash P (Str.ofString "type.__subclasses__.Exception.n"), key := Value.str (Str.ofString "type.__subclasses__.Exception.n") 213, val := Value.int 1 0 }] 2 }),
(3, { cls := Value.type "dict", data := Data.dict #[{ hash := PyData.keyHash P (Str.ofString "__name__"), key := Value.str (Str.ofString "__name__") 165, val := Value.str (Str.ofString "law_no0162_01") 662 }, { hash := PyData.keyHash P (Str.ofString "__doc__"), key := Value.str (Str.ofString "__doc__") 166, val := Value.none }, { hash := PyData.keyHash P (Str.ofString "__package__"), key := Value.str (Str.ofString "__package__") 167, val := Value.none }, { hash := PyData.keyHash P (Str.ofString "__loader__"), key := Value.str (Str.ofString "__loader__") 168, val := Value.builtin "__main__.__loader__#opaque" }, { hash := PyData.keyHash P (Str.ofString "__spec__"), key := Value.str (Str.ofString "__spec__") 169, val := Value.none }, { hash := PyData.keyHash P (Str.ofString "__annotations__"), key := Value.str (Str.ofString "__annotations__") 170, val := Value.ref 6 }, { hash := PyData.keyHash P (Str.ofString "__builtins__"), key := Value.str (Str.ofString "__builtins__") 171, val := Value.ref 4 }, { hash := PyData.keyHash P (Str.ofString "__file__"), key := Value.str (Str.ofString "__file__") 173, val := Value.str (Str.ofString "/claim/cut.py") 172 }, { hash := PyData.keyHash P (Str.ofString "__cached__"), key := Value.str (Str.ofString "__cached__") 174, val := Value.none }, { hash := PyData.keyHash P (Str.ofString "_wall"), key := Value.str (Str.ofString "_wall") 193, val := Value.ref 21 }, { hash := PyData.keyHash P (Str.ofString "ClausemillError"), key := Value.str (Str.ofString "ClausemillError") 215, val := Value.ref 31 }, { hash := PyData.keyHash P (Str.ofString "PrologError"), key := Value.str (Str.ofString "PrologError") 240, val := Value.ref 51 }, { hash := PyData.keyHash P (Str.ofString "A_NIL"), key := Value.str (Str.ofString "A_NIL") 242, val := Value.int 0 241 }, { hash := PyData.keyHash P (Str.ofString "A_CURLY"), key := Value.str (Str.ofString "A_CURLY") 244, val := Value.int 2 243 }, { hash := PyData.keyHash P (Str.ofString "A_COMMA"), key := Value.str (Str.ofString "A_COMMA") 246, val := Value.int 7 245 }, { hash := PyData.keyHash P (Str.ofString "A_BAR"), key := Value.str (Str.ofString "A_BAR") 248, val := Value.int 8 247 }, { hash := PyData.keyHash P (Str.ofString "A_SYSTEM"), key := Value.str (Str.ofString "A_SYSTEM") 250, val := Value.int 25 249 }, { hash := PyData.keyHash P (Str.ofString "F_DOT"), key := Value.str (Str.ofString "F_DOT") 252, val := Value.int 0 251 }, { hash := PyData.keyHash P (Str.ofString "F_ERROR"), key := Value.str (Str.ofString "F_ERROR") 254, val := Value.int 16 253 }, { hash := PyData.keyHash P (Str.ofString "fixed_atoms"), key := Value.str (Str.ofString "fixed_atoms") 260, val := Value.ref 60 }, { hash := PyData.keyHash P (Str.ofString "fixed_functors"), key := Value.str (Str.ofString "fixed_functors") 266, val := Value.ref 67 }, { hash := PyData.keyHash P (Str.ofString "Symbols"), key := Value.str (Str.ofString "Symbols") 385, val := Value.ref 154 }, { hash := PyData.keyHash P (Str.ofString "atom"), key := Value.str (Str.ofString "atom") 394, val := Value.ref 165 }, { hash := PyData.keyHash P (Str.ofString "list_items"), key := Value.str (Str.ofString "list_items") 402, val := Value.ref 172 }, { hash := PyData.keyHash P (Str.ofString "system_error"), key := Value.str (Str.ofString "system_error") 409, val := Value.ref 179 }, { hash := PyData.keyHash P (Str.ofString "formal_of"), key := Value.str (Str.ofString "formal_of") 420, val := Value.ref 186 }, { hash := PyData.keyHash P (Str.ofString "instantiation_error"), key := Value.str (Str.ofString "instantiation_error") 427, val := Value.ref 193 }, { hash := PyData.keyHash P (Str.ofString "type_error"), key := Value.str (Str.ofString "type_error") 436, val := Value.ref 200 }, { hash := PyData.keyHash P (Str.ofString "domain_error"), key := Value.str (Str.ofString "domain_error") 445, val := Value.ref 207 }, { hash := PyData.keyHash P (Str.ofString "permission_error"), key := Value.str (Str.ofString "permission_error") 455, val := Value.ref 214 }, { hash := PyData.keyHash P (Str.ofString "MAX_PRIORITY"), key := Value.str (Str.ofString "MAX_PRIORITY") 459, val := Value.int 1200 458 }, { hash := PyData.keyHash P (Str.ofString "COMMA_PRIORITY"), key := Value.str (Str.ofString "COMMA_PRIORITY") 461, val := Value.int 1000 460 }, { hash := PyData.keyHash P (Str.ofString "PREFIX_TYPES"), key := Value.str (Str.ofString "PREFIX_TYPES") 464, val := Value.ref 215 }, { hash := PyData.keyHash P (Str.ofString "INFIX_TYPES"), key := Value.str (Str.ofString "INFIX_TYPES") 468, val := Value.ref 216 }, { hash := PyData.keyHash P (Str.ofString "POSTFIX_TYPES"), key := Value.str (Str.ofString "POSTFIX_TYPES") 471, val := Value.ref 217 }, { hash := PyData.keyHash P (Str.ofString "standard_rows"), key := Value.str (Str.ofString "standard_rows") 477, val := Value.ref 224 }, { hash := PyData.keyHash P (Str.ofString "fixity"), key := Value.str (Str.ofString "fixity") 484, val := Value.ref 231 }, { hash := PyData.keyHash P (Str.ofString "OperatorTable"), key := Value.str (Str.ofString "OperatorTable") 584, val := Value.ref 298 }, { hash := PyData.keyHash P (Str.ofString "Operators"), key := Value.str (Str.ofString "Operators") 661, val := Value.ref 347 }, { hash := PyData.keyHash P (Str.ofString "_law_pool"), key := Value.str (Str.ofString "_law_pool") 676, val := Value.ref 356 }, { hash := PyData.keyHash P (Str.ofString "_law_pick"), key := Value.str (Str.ofString "_law_pick") 685, val := Value.ref 363 }, { hash := PyData.keyHash P (Str.ofString "_law_class"), key := Value.str (Str.ofString "_law_class") 692, val := Value.ref 370 }, { hash := PyData.keyHash P (Str.ofString "_law_standard"), key := Value.str (Str.ofString "_law_standard") 703, val := Value.ref 377 }, { hash := PyData.keyHash P (Str.ofString "_law_formal"), key := Value.str (Str.ofString "_law_formal") 709, val := Value.ref 382 }, { hash := PyData.keyHash P (Str.ofString "_law_barred"), key := Value.str (Str.ofString "_law_barred") 723, val := Value.ref 389 }, { hash := PyData.keyHash P (Str.ofString "_law_due"), key := Value.str (Str.ofString "_law_due") 729, val := Value.ref 394 }, { hash := PyData.keyHash P (Str.ofString "_law_odd"), key := Value.str (Str.ofString "_law_odd") 739, val := Value.ref 401 }, { hash := PyData.keyHash P (Str.ofString "_law_name"), key := Value.str (Str.ofString "_law_name") 749, val := Value.ref 408 }, { hash := PyData.keyHash P (Str.ofString "_law_priority"), key := Value.str (Str.ofString "_law_priority") 759, val := Value.ref 415 }, { hash := PyData.keyHash P (Str.ofString "_law_type"), key := Value.str (Str.ofString "_law_type") 769, val := Value.ref 422 }, { hash := PyData.keyHash P (Str.ofString "_law_names"), key := Value.str (Str.ofString "_law_names") 783, val := Value.ref 429 }, { hash := PyData.keyHash P (Str.ofString "law"), key := Value.str (Str.ofString "law") 789, val := Value.ref 434 }] 52 }),
(15, { cls := Value.type "tuple", data := Data.seq #[] }),
(17, { cls := Value.type "tuple", data := Data.seq #[Value.str (Str.ofString "k") 190] }),
(18, { cls := Value.type "tuple", data := Data.seq #[] }),
(20, { cls := Value.type "code", data := Data.fields #[Value.str (Str.ofString "_wall") 187, Value.str (Str.ofString "_wall") 188, Value.str (Str.ofString "/claim/cut.py") 189, Value.int 1 0, Value.int 1 0, Value.int 0 0, Value.int 0 0, Value.int 3 0, Value.ref 15, Value.bool true, Value.int 181 0, Value.ref 16, Value.none, Value.ref 17, Value.ref 18, Value.ref 19, Value.int 191 0, Value.int 1 0, Value.str (Str.ofString "/claim/cut.py") 192] }),
(21, { cls := Value.type "function", data := Data.func { name := Str.ofString "_wall", qualname := Str.ofString "_wall", params := aP 0 1000, body := FuncBody.stmts (aB 0 1000), scope := aS 0 1000, globals := 3, closure := [], defaults := Value.none, kwdefaults := Value.none, pyModule := Value.str (Str.ofString "__main__") 164, code := Value.ref 20 } }),
(22, { cls := Value.type "tuple", data := Data.seq #[Value.type "Exception"] }),
(29, { cls := Value.type "tuple", data := Data.seq #[] }),
(30, { cls := Value.type "dict", data := Data.dict #[{ hash := PyData.keyHash P (Str.ofString "__module__"), key := Value.str (Str.ofString "__module__") 203, val := Value.str (Str.ofString "clausemill.symbols") 194 }, { hash := PyData.keyHash P (Str.ofString "__firstlineno__"), key := Value.str (Str.ofString "__firstlineno__") 207, val := Value.int 5 206 }, { hash := PyData.keyHash P (Str.ofString "__static_attributes__"), key := Value.str (Str.ofString "__static_attributes__") 208, val := Value.ref 29 }, { hash := PyData.keyHash P (Str.ofString "__weakref__"), key := Value.str (Str.ofString "__weakref__") 210, val := Value.ref 32 }, { hash := PyData.keyHash P (Str.ofString "__doc__"), key := Value.str (Str.ofString "__doc__") 211, val := Value.none }] 3 }),
(31, { cls := Value.type "type", data := Data.cls { name := Str.ofString "ClausemillError", bases := [Value.type "Exception"], mro := [Value.ref 31, Value.type "Exception", Value.type "BaseException", Value.type "object"], ns := 30, qualname := Str.ofString "ClausemillError", subclasses := [Value.ref 51] }, slots := #[some (Value.ref 22), none, some (Value.str (Str.ofString "ClausemillError") 196), some (Value.str (Str.ofString "ClausemillError") 204), some (Value.builtin "Exception.__new__"), some (Value.bool true)] }),
(32, { cls := Value.type "getset_descriptor", data := Data.fields #[Value.str (Str.ofString "__weakref__") 209, Value.ref 31, Value.builtin "ExceptionGroup.__weakref__", Value.none] }),
(35, { cls := Value.type "tuple", data := Data.seq #[Value.ref 31] }),
(42, { cls := Value.type "tuple", data := Data.seq #[] }),
(44, { cls := Value.type "tuple", data := Data.seq #[Value.str (Str.ofString "self") 231, Value.str (Str.ofString "ball") 232] }),
(45, { cls := Value.type "tuple", data := Data.seq #[] }),
(47, { cls := Value.type "code", data := Data.fields #[Value.str (Str.ofString "__init__") 228, Value.str (Str.ofString "PrologError.__init__") 229, Value.str (Str.ofString "/claim/cut.py") 230, Value.int 9 0, Value.int 2 0, Value.int 0 0, Value.int 0 0, Value.int 3 0, Value.ref 42, Value.bool true, Value.int 181 0, Value.ref 43, Value.none, Value.ref 44, Value.ref 45, Value.ref 46, Value.int 233 0, Value.int 9 0, Value.str (Str.ofString "/claim/cut.py") 234] }),
(48, { cls := Value.type "function", data := Data.func { name := Str.ofString "__init__", qualname := Str.ofString "PrologError.__init__", params := aP 3 0, body := FuncBody.stmts (aB 3 0), scope := aS 3 0, globals := 3, closure := [], defaults := Value.none, kwdefaults := Value.none, pyModule := Value.str (Str.ofString "clausemill.symbols") 194, code := Value.ref 47 } }),
(49, { cls := Value.type "tuple", data := Data.seq #[Value.str (Str.ofString "ball") 236] }),
(50, { cls := Value.type "dict", data := Data.dict #[{ hash := PyData.keyHash P (Str.ofString "__module__"), key := Value.str (Str.ofString "__module__") 223, val := Value.str (Str.ofString "clausemill.symbols") 194 }, { hash := PyData.keyHash P (Str.ofString "__firstlineno__"), key := Value.str (Str.ofString "__firstlineno__") 227, val := Value.int 7 226 }, { hash := PyData.keyHash P (Str.ofString "__init__"), key := Value.str (Str.ofString "__init__") 235, val := Value.ref 48 }, { hash := PyData.keyHash P (Str.ofString "__static_attributes__"), key := Value.str (Str.ofString "__static_attributes__") 237, val := Value.ref 49 }, { hash := PyData.keyHash P (Str.ofString "__doc__"), key := Value.str (Str.ofString "__doc__") 238, val := Value.none }] 2 }),
(51, { cls := Value.type "type", data := Data.cls { name := Str.ofString "PrologError", bases := [Value.ref 31], mro := [Value.ref 51, Value.ref 31, Value.type "Exception", Value.type "BaseException", Value.type "object"], ns := 50, qualname := Str.ofString "PrologError" }, slots := #[some (Value.ref 35), none, some (Value.str (Str.ofString "PrologError") 216), some (Value.str (Str.ofString "PrologError") 224), some (Value.builtin "Exception.__new__"), some (Value.bool true)] }),
(54, { cls := Value.type "tuple", data := Data.seq #[] }),
(56, { cls := Value.type "tuple", data := Data.seq #[] }),
(57, { cls := Value.type "tuple", data := Data.seq #[] }),
(59, { cls := Value.type "code", data := Data.fields #[Value.str (Str.ofString "fixed_atoms") 255, Value.str (Str.ofString "fixed_atoms") 256, Value.str (Str.ofString "/claim/cut.py") 257, Value.int 18 0, Value.int 0 0, Value.int 0 0, Value.int 0 0, Value.int 3 0, Value.ref 54, Value.bool true, Value.int 181 0, Value.ref 55, Value.none, Value.ref 56, Value.ref 57, Value.ref 58, Value.int 258 0, Value.int 18 0, Value.str (Str.ofString "/claim/cut.py") 259] }),
(60, { cls := Value.type "function", data := Data.func { name := Str.ofString "fixed_atoms", qualname := Str.ofString "fixed_atoms", params := aP 11 1000, body := FuncBody.stmts (aB 11 1000), scope := aS 11 1000, globals := 3, closure := [], defaults := Value.none, kwdefaults := Value.none, pyModule := Value.str (Str.ofString "clausemill.symbols") 194, code := Value.ref 59 } }),
(61, { cls := Value.type "tuple", data := Data.seq #[] }),
(63, { cls := Value.type "tuple", data := Data.seq #[] }),
(64, { cls := Value.type "tuple", data := Data.seq #[] }),
(66, { cls := Value.type "code", data := Data.fields #[Value.str (Str.ofString "fixed_functors") 261, Value.str (Str.ofString "fixed_functors") 262, Value.str (Str.ofString "/claim/cut.py") 263, Value.int 20 0, Value.int 0 0, Value.int 0 0, Value.int 0 0, Value.int 3 0, Value.ref 61, Value.bool true, Value.int 181 0, Value.ref 62, Value.none, Value.ref 63, Value.ref 64, Value.ref 65, Value.int 264 0, Value.int 20 0, Value.str (Str.ofString "/claim/cut.py") 265] }),
(67, { cls := Value.type "function", data := Data.func { name := Str.ofString "fixed_functors", qualname := Str.ofString "fixed_functors", params := aP 12 1000, body := FuncBody.stmts (aB 12 1000), scope := aS 12 1000, globals := 3, closure := [], defaults := Value.none, kwdefaults := Value.none, pyModule := Value.str (Str.ofString "clausemill.symbols") 194, code := Value.ref 66 } }),
(75, { cls := Value.type "tuple", data := Data.seq #[] }),
(77, { cls := Value.type "tuple", data := Data.seq #[Value.str (Str.ofString "self") 282, Value.str (Str.ofString "text") 283, Value.str (Str.ofString "row") 284] }),
(78, { cls := Value.type "tuple", data := Data.seq #[] }),
(80, { cls := Value.type "code", data := Data.fields #[Value.str (Str.ofString "__init__") 279, Value.str (Str.ofString "Symbols.__init__") 280, Value.str (Str.ofString "/claim/cut.py") 281, Value.int 24 0, Value.int 1 0, Value.int 0 0, Value.int 0 0, Value.int 3 0, Value.ref 75, Value.bool true, Value.int 181 0, Value.ref 76, Value.none, Value.ref 77, Value.ref 78, Value.ref 79, Value.int 285 0, Value.int 24 0, Value.str (Str.ofString "/claim/cut.py") 286] }),
(81, { cls := Value.type "function", data := Data.func { name := Str.ofString "__init__", qualname := Str.ofString "Symbols.__init__", params := aP 13 0, body := FuncBody.stmts (aB 13 0), scope := aS 13 0, globals := 3, closure := [], defaults := Value.none, kwdefaults := Value.none, pyModule := Value.str (Str.ofString "clausemill.symbols") 194, code := Value.ref 80 } }),
(82, { cls := Value.type "tuple", data := Data.seq #[] }),
(84, { cls := Value.type "tuple", data := Data.seq #[Value.str (Str.ofString "self") 291, Value.str (Str.ofString "text") 292, Value.str (Str.ofString "found") 293, Value.str (Str.ofString "number") 294] }),
(85, { cls := Value.type "tuple", data := Data.seq #[] }),
(87, { cls := Value.type "code", data := Data.fields #[Value.str (Str.ofString "atom") 288, Value.str (Str.ofString "Symbols.atom") 289, Value.str (Str.ofString "/claim/cut.py") 290, Value.int 34 0, Value.int 2 0, Value.int 0 0, Value.int 0 0, Value.int 3 0, Value.ref 82, Value.bool true, Value.int 181 0, Value.ref 83, Value.none, Value.ref 84, Value.ref 85, Value.ref 86, Value.int 295 0, Value.int 34 0, Value.str (Str.ofString "/claim/cut.py") 296] }),
(88, { cls := Value.type "function", data := Data.func { name := Str.ofString "atom", qualname := Str.ofString "Symbols.atom", params := aP 13 1, body := FuncBody.stmts (aB 13 1), scope := aS 13 1, globals := 3, closure := [], defaults := Value.none, kwdefaults := Value.none, pyModule := Value.str (Str.ofString "clausemill.symbols") 194, code := Value.ref 87 } }),
(89, { cls := Value.type "tuple", data := Data.seq #[] }),
(91, { cls := Value.type "tuple", data := Data.seq #[Value.str (Str.ofString "self") 301, Value.str (Str.ofString "number") 302] }),
(92, { cls := Value.type "tuple", data := Data.seq #[] }),
(94, { cls := Value.type "code", data := Data.fields #[Value.str (Str.ofString "text") 298, Value.str (Str.ofString "Symbols.text") 299, Value.str (Str.ofString "/claim/cut.py") 300, Value.int 43 0, Value.int 2 0, Value.int 0 0, Value.int 0 0, Value.int 3 0, Value.ref 89, Value.bool true, Value.int 181 0, Value.ref 90, Value.none, Value.ref 91, Value.ref 92, Value.ref 93, Value.int 303 0, Value.int 43 0, Value.str (Str.ofString "/claim/cut.py") 304] }),
(95, { cls := Value.type "function", data := Data.func { name := Str.ofString "text", qualname := Str.ofString "Symbols.text", params := aP 13 2, body := FuncBody.stmts (aB 13 2), scope := aS 13 2, globals := 3, closure := [], defaults := Value.none, kwdefaults := Value.none, pyModule := Value.str (Str.ofString "clausemill.symbols") 194, code := Value.ref 94 } }),
(96, { cls := Value.type "tuple", data := Data.seq #[] }),
(98, { cls := Value.type "tuple", data := Data.seq #[Value.str (Str.ofString "self") 309, Value.str (Str.ofString "atom") 310, Value.str (Str.ofString "arity") 311, Value.str (Str.ofString "key") 312, Value.str (Str.ofString "found") 313, Value.str (Str.ofString "number") 314] }),
(99, { cls := Value.type "tuple", data := Data.seq #[] }),
(101, { cls := Value.type "code", data := Data.fields #[Value.str (Str.ofString "functor") 306, Value.str (Str.ofString "Symbols.functor") 307, Value.str (Str.ofString "/claim/cut.py") 308, Value.int 46 0, Value.int 3 0, Value.int 0 0, Value.int 0 0, Value.int 3 0, Value.ref 96, Value.bool true, Value.int 181 0, Value.ref 97, Value.none, Value.ref 98, Value.ref 99, Value.ref 100, Value.int 315 0, Value.int 46 0, Value.str (Str.ofString "/claim/cut.py") 316] }),
(102, { cls := Value.type "function", data := Data.func { name := Str.ofString "functor", qualname := Str.ofString "Symbols.functor", params := aP 13 3, body := FuncBody.stmts (aB 13 3), scope := aS 13 3, globals := 3, closure := [], defaults := Value.none, kwdefaults := Value.none, pyModule := Value.str (Str.ofString "clausemill.symbols") 194, code := Value.ref 101 } }),
(103, { cls := Value.type "tuple", data := Data.seq #[] }),
(105, { cls := Value.type "tuple", data := Data.seq #[Value.str (Str.ofString "self") 321, Value.str (Str.ofString "text") 322, Value.str (Str.ofString "arity") 323] }),
(106, { cls := Value.type "tuple", data := Data.seq #[] }),
(108, { cls := Value.type "code", data := Data.fields #[Value.str (Str.ofString "func") 318, Value.str (Str.ofString "Symbols.func") 319, Value.str (Str.ofString "/claim/cut.py") 320, Value.int 56 0, Value.int 3 0, Value.int 0 0, Value.int 0 0, Value.int 3 0, Value.ref 103, Value.bool true, Value.int 181 0, Value.ref 104, Value.none, Value.ref 105, Value.ref 106, Value.ref 107, Value.int 324 0, Value.int 56 0, Value.str (Str.ofString "/claim/cut.py") 325] }),
(109, { cls := Value.type "function", data := Data.func { name := Str.ofString "func", qualname := Str.ofString "Symbols.func", params := aP 13 4, body := FuncBody.stmts (aB 13 4), scope := aS 13 4, globals := 3, closure := [], defaults := Value.none, kwdefaults := Value.none, pyModule := Value.str (Str.ofString "clausemill.symbols") 194, code := Value.ref 108 } }),
(110, { cls := Value.type "tuple", data := Data.seq #[] }),
(112, { cls := Value.type "tuple", data := Data.seq #[Value.str (Str.ofString "self") 330, Value.str (Str.ofString "functor") 331] }),
(113, { cls := Value.type "tuple", data := Data.seq #[] }),
(115, { cls := Value.type "code", data := Data.fields #[Value.str (Str.ofString "name") 327, Value.str (Str.ofString "Symbols.name") 328, Value.str (Str.ofString "/claim/cut.py") 329, Value.int 59 0, Value.int 2 0, Value.int 0 0, Value.int 0 0, Value.int 3 0, Value.ref 110, Value.bool true, Value.int 181 0, Value.ref 111, Value.none, Value.ref 112, Value.ref 113, Value.ref 114, Value.int 332 0, Value.int 59 0, Value.str (Str.ofString "/claim/cut.py") 333] }),
(116, { cls := Value.type "function", data := Data.func { name := Str.ofString "name", qualname := Str.ofString "Symbols.name", params := aP 13 5, body := FuncBody.stmts (aB 13 5), scope := aS 13 5, globals := 3, closure := [], defaults := Value.none, kwdefaults := Value.none, pyModule := Value.str (Str.ofString "clausemill.symbols") 194, code := Value.ref 115 } }),
(117, { cls := Value.type "tuple", data := Data.seq #[] }),
(119, { cls := Value.type "tuple", data := Data.seq #[Value.str (Str.ofString "self") 338, Value.str (Str.ofString "functor") 339] }),
(120, { cls := Value.type "tuple", data := Data.seq #[] }),
(122, { cls := Value.type "code", data := Data.fields #[Value.str (Str.ofString "arity") 335, Value.str (Str.ofString "Symbols.arity") 336, Value.str (Str.ofString "/claim/cut.py") 337, Value.int 62 0, Value.int 2 0, Value.int 0 0, Value.int 0 0, Value.int 3 0, Value.ref 117, Value.bool true, Value.int 181 0, Value.ref 118, Value.none, Value.ref 119, Value.ref 120, Value.ref 121, Value.int 340 0, Value.int 62 0, Value.str (Str.ofString "/claim/cut.py") 341] }),
(123, { cls := Value.type "function", data := Data.func { name := Str.ofString "arity", qualname := Str.ofString "Symbols.arity", params := aP 13 6, body := FuncBody.stmts (aB 13 6), scope := aS 13 6, globals := 3, closure := [], defaults := Value.none, kwdefaults := Value.none, pyModule := Value.str (Str.ofString "clausemill.symbols") 194, code := Value.ref 122 } }),
(124, { cls := Value.type "tuple", data := Data.seq #[] }),
(126, { cls := Value.type "tuple", data := Data.seq #[Value.str (Str.ofString "self") 346, Value.str (Str.ofString "functor") 347] }),
(127, { cls := Value.type "tuple", data := Data.seq #[] }),
(129, { cls := Value.type "code", data := Data.fields #[Value.str (Str.ofString "label") 343, Value.str (Str.ofString "Symbols.label") 344, Value.str (Str.ofString "/claim/cut.py") 345, Value.int 65 0, Value.int 2 0, Value.int 0 0, Value.int 0 0, Value.int 3 0, Value.ref 124, Value.bool true, Value.int 181 0, Value.ref 125, Value.none, Value.ref 126, Value.ref 127, Value.ref 128, Value.int 348 0, Value.int 65 0, Value.str (Str.ofString "/claim/cut.py") 349] }),
(130, { cls := Value.type "function", data := Data.func { name := Str.ofString "label", qualname := Str.ofString "Symbols.label", params := aP 13 7, body := FuncBody.stmts (aB 13 7), scope := aS 13 7, globals := 3, closure := [], defaults := Value.none, kwdefaults := Value.none, pyModule := Value.str (Str.ofString "clausemill.symbols") 194, code := Value.ref 129 } }),
(131, { cls := Value.type "tuple", data := Data.seq #[] }),
(133, { cls := Value.type "tuple", data := Data.seq #[Value.str (Str.ofString "self") 354] }),
(134, { cls := Value.type "tuple", data := Data.seq #[] }),
(136, { cls := Value.type "code", data := Data.fields #[Value.str (Str.ofString "count") 351, Value.str (Str.ofString "Symbols.count") 352, Value.str (Str.ofString "/claim/cut.py") 353, Value.int 68 0, Value.int 1 0, Value.int 0 0, Value.int 0 0, Value.int 3 0, Value.ref 131, Value.bool true, Value.int 181 0, Value.ref 132, Value.none, Value.ref 133, Value.ref 134, Value.ref 135, Value.int 355 0, Value.int 68 0, Value.str (Str.ofString "/claim/cut.py") 356] }),
(137, { cls := Value.type "function", data := Data.func { name := Str.ofString "count", qualname := Str.ofString "Symbols.count", params := aP 13 8, body := FuncBody.stmts (aB 13 8), scope := aS 13 8, globals := 3, closure := [], defaults := Value.none, kwdefaults := Value.none, pyModule := Value.str (Str.ofString "clausemill.symbols") 194, code := Value.ref 136 } }),
(138, { cls := Value.type "tuple", data := Data.seq #[] }),
(140, { cls := Value.type "tuple", data := Data.seq #[Value.str (Str.ofString "self") 361] }),
(141, { cls := Value.type "tuple", data := Data.seq #[] }),
(143, { cls := Value.type "code", data := Data.fields #[Value.str (Str.ofString "functor_count") 358, Value.str (Str.ofString "Symbols.functor_count") 359, Value.str (Str.ofString "/claim/cut.py") 360, Value.int 71 0, Value.int 1 0, Value.int 0 0, Value.int 0 0, Value.int 3 0, Value.ref 138, Value.bool true, Value.int 181 0, Value.ref 139, Value.none, Value.ref 140, Value.ref 141, Value.ref 142, Value.int 362 0, Value.int 71 0, Value.str (Str.ofString "/claim/cut.py") 363] }),
(144, { cls := Value.type "function", data := Data.func { name := Str.ofString "functor_count", qualname := Str.ofString "Symbols.functor_count", params := aP 13 9, body := FuncBody.stmts (aB 13 9), scope := aS 13 9, globals := 3, closure := [], defaults := Value.none, kwdefaults := Value.none, pyModule := Value.str (Str.ofString "clausemill.symbols") 194, code := Value.ref 143 } }),
(145, { cls := Value.type "tuple", data := Data.seq #[] }),
(147, { cls := Value.type "tuple", data := Data.seq #[Value.str (Str.ofString "self") 368, Value.str (Str.ofString "text") 369, Value.str (Str.ofString "arity") 370] }),
(148, { cls := Value.type "tuple", data := Data.seq #[] }),
(150, { cls := Value.type "code", data := Data.fields #[Value.str (Str.ofString "known") 365, Value.str (Str.ofString "Symbols.known") 366, Value.str (Str.ofString "/claim/cut.py") 367, Value.int 74 0, Value.int 3 0, Value.int 0 0, Value.int 0 0, Value.int 3 0, Value.ref 145, Value.bool true, Value.int 181 0, Value.ref 146, Value.none, Value.ref 147, Value.ref 148, Value.ref 149, Value.int 371 0, Value.int 74 0, Value.str (Str.ofString "/claim/cut.py") 372] }),
(151, { cls := Value.type "function", data := Data.func { name := Str.ofString "known", qualname := Str.ofString "Symbols.known", params := aP 13 10, body := FuncBody.stmts (aB 13 10), scope := aS 13 10, globals := 3, closure := [], defaults := Value.none, kwdefaults := Value.none, pyModule := Value.str (Str.ofString "clausemill.symbols") 194, code := Value.ref 150 } }),
(152, { cls := Value.type "tuple", data := Data.seq #[Value.str (Str.ofString "atom_numbers") 374, Value.str (Str.ofString "functor_numbers") 375, Value.str (Str.ofString "functors") 376, Value.str (Str.ofString "texts") 377] }),
(153, { cls := Value.type "dict", data := Data.dict #[{ hash := PyData.keyHash P (Str.ofString "__module__"), key := Value.str (Str.ofString "__module__") 274, val := Value.str (Str.ofString "clausemill.symbols") 194 }, { hash := PyData.keyHash P (Str.ofString "__firstlineno__"), key := Value.str (Str.ofString "__firstlineno__") 278, val := Value.int 22 277 }, { hash := PyData.keyHash P (Str.ofString "__init__"), key := Value.str (Str.ofString "__init__") 287, val := Value.ref 81 }, { hash := PyData.keyHash P (Str.ofString "atom"), key := Value.str (Str.ofString "atom") 297, val := Value.ref 88 }, { hash := PyData.keyHash P (Str.ofString "text"), key := Value.str (Str.ofString "text") 305, val := Value.ref 95 }, { hash := PyData.keyHash P (Str.ofString "functor"), key := Value.str (Str.ofString "functor") 317, val := Value.ref 102 }, { hash := PyData.keyHash P (Str.ofString "func"), key := Value.str (Str.ofString "func") 326, val := Value.ref 109 }, { hash := PyData.keyHash P (Str.ofString "name"), key := Value.str (Str.ofString "name") 334, val := Value.ref 116 }, { hash := PyData.keyHash P (Str.ofString "arity"), key := Value.str (Str.ofString "arity") 342, val := Value.ref 123 }, { hash := PyData.keyHash P (Str.ofString "label"), key := Value.str (Str.ofString "label") 350, val := Value.ref 130 }, { hash := PyData.keyHash P (Str.ofString "count"), key := Value.str (Str.ofString "count") 357, val := Value.ref 137 }, { hash := PyData.keyHash P (Str.ofString "functor_count"), key := Value.str (Str.ofString "functor_count") 364, val := Value.ref 144 }, { hash := PyData.keyHash P (Str.ofString "known"), key := Value.str (Str.ofString "known") 373, val := Value.ref 151 }, { hash := PyData.keyHash P (Str.ofString "__static_attributes__"), key := Value.str (Str.ofString "__static_attributes__") 378, val := Value.ref 152 }, { hash := PyData.keyHash P (Str.ofString "__dict__"), key := Value.str (Str.ofString "__dict__") 380, val := Value.ref 155 }, { hash := PyData.keyHash P (Str.ofString "__weakref__"), key := Value.str (Str.ofString "__weakref__") 382, val := Value.ref 156 }, { hash := PyData.keyHash P (Str.ofString "__doc__"), key := Value.str (Str.ofString "__doc__") 383, val := Value.none }] 4 }),
(154, { cls := Value.type "type", data := Data.cls { name := Str.ofString "Symbols", bases := [Value.type "object"], mro := [Value.ref 154, Value.type "object"], ns := 153, qualname := Str.ofString "Symbols" }, slots := #[none, none, some (Value.str (Str.ofString "Symbols") 267), some (Value.str (Str.ofString "Symbols") 275), some (Value.builtin "object.__new__"), some (Value.bool true)] }),
(155, { cls := Value.type "getset_descriptor", data := Data.fields #[Value.str (Str.ofString "__dict__") 379, Value.ref 154, Value.builtin "function.__dict__", Value.builtin "function.__dict__#set"] }),
(156, { cls := Value.type "getset_descriptor", data := Data.fields #[Value.str (Str.ofString "__weakref__") 381, Value.ref 154, Value.builtin "ExceptionGroup.__weakref__", Value.none] }),
(159, { cls := Value.type "tuple", data := Data.seq #[] }),
(161, { cls := Value.type "tuple", data := Data.seq #[Value.str (Str.ofString "number") 391] }),
(162, { cls := Value.type "tuple", data := Data.seq #[] }),
(164, { cls := Value.type "code", data := Data.fields #[Value.str (Str.ofString "atom") 388, Value.str (Str.ofString "atom") 389, Value.str (Str.ofString "/claim/cut.py") 390, Value.int 77 0, Value.int 1 0, Value.int 0 0, Value.int 0 0, Value.int 3 0, Value.ref 159, Value.bool true, Value.int 181 0, Value.ref 160, Value.none, Value.ref 161, Value.ref 162, Value.ref 163, Value.int 392 0, Value.int 77 0, Value.str (Str.ofString "/claim/cut.py") 393] }),
(165, { cls := Value.type "function", data := Data.func { name := Str.ofString "atom", qualname := Str.ofString "atom", params := aP 15 1000, body := FuncBody.stmts (aB 15 1000), scope := aS 15 1000, globals := 3, closure := [], defaults := Value.none, kwdefaults := Value.none, pyModule := Value.str (Str.ofString "clausemill.terms") 386, code := Value.ref 164 } }),
(166, { cls := Value.type "tuple", data := Data.seq #[] }),
(168, { cls := Value.type "tuple", data := Data.seq #[Value.str (Str.ofString "term") 398, Value.str (Str.ofString "items") 399] }),
(169, { cls := Value.type "tuple", data := Data.seq #[] }),
(171, { cls := Value.type "code", data := Data.fields #[Value.str (Str.ofString "list_items") 395, Value.str (Str.ofString "list_items") 396, Value.str (Str.ofString "/claim/cut.py") 397, Value.int 79 0, Value.int 1 0, Value.int 0 0, Value.int 0 0, Value.int 3 0, Value.ref 166, Value.bool true, Value.int 181 0, Value.ref 167, Value.none, Value.ref 168, Value.ref 169, Value.ref 170, Value.int 400 0, Value.int 79 0, Value.str (Str.ofString "/claim/cut.py") 401] }),
(172, { cls := Value.type "function", data := Data.func { name := Str.ofString "list_items", qualname := Str.ofString "list_items", params := aP 16 1000, body := FuncBody.stmts (aB 16 1000), scope := aS 16 1000, globals := 3, closure := [], defaults := Value.none, kwdefaults := Value.none, pyModule := Value.str (Str.ofString "clausemill.terms") 386, code := Value.ref 171 } }),
(173, { cls := Value.type "tuple", data := Data.seq #[] }),
(175, { cls := Value.type "tuple", data := Data.seq #[Value.str (Str.ofString "formal") 406] }),
(176, { cls := Value.type "tuple", data := Data.seq #[] }),
(178, { cls := Value.type "code", data := Data.fields #[Value.str (Str.ofString "system_error") 403, Value.str (Str.ofString "system_error") 404, Value.str (Str.ofString "/claim/cut.py") 405, Value.int 85 0, Value.int 1 0, Value.int 0 0, Value.int 0 0, Value.int 3 0, Value.ref 173, Value.bool true, Value.int 181 0, Value.ref 174, Value.none, Value.ref 175, Value.ref 176, Value.ref 177, Value.int 407 0, Value.int 85 0, Value.str (Str.ofString "/claim/cut.py") 408] }),
(179, { cls := Value.type "function", data := Data.func { name := Str.ofString "system_error", qualname := Str.ofString "system_error", params := aP 17 1000, body := FuncBody.stmts (aB 17 1000), scope := aS 17 1000, globals := 3, closure := [], defaults := Value.none, kwdefaults := Value.none, pyModule := Value.str (Str.ofString "clausemill.terms") 386, code := Value.ref 178 } }),
(180, { cls := Value.type "tuple", data := Data.seq #[] }),
(182, { cls := Value.type "tuple", data := Data.seq #[Value.str (Str.ofString "symbols") 413, Value.str (Str.ofString "name") 414, Value.str (Str.ofString "parts") 415, Value.str (Str.ofString "args") 416, Value.str (Str.ofString "part") 417] }),
(183, { cls := Value.type "tuple", data := Data.seq #[] }),
(185, { cls := Value.type "code", data := Data.fields #[Value.str (Str.ofString "formal_of") 410, Value.str (Str.ofString "formal_of") 411, Value.str (Str.ofString "/claim/cut.py") 412, Value.int 87 0, Value.int 3 0, Value.int 0 0, Value.int 0 0, Value.int 3 0, Value.ref 180, Value.bool true, Value.int 181 0, Value.ref 181, Value.none, Value.ref 182, Value.ref 183, Value.ref 184, Value.int 418 0, Value.int 87 0, Value.str (Str.ofString "/claim/cut.py") 419] }),
(186, { cls := Value.type "function", data := Data.func { name := Str.ofString "formal_of", qualname := Str.ofString "formal_of", params := aP 18 1000, body := FuncBody.stmts (aB 18 1000), scope := aS 18 1000, globals := 3, closure := [], defaults := Value.none, kwdefaults := Value.none, pyModule := Value.str (Str.ofString "clausemill.terms") 386, code := Value.ref 185 } }),
(187, { cls := Value.type "tuple", data := Data.seq #[] }),
(189, { cls := Value.type "tuple", data := Data.seq #[Value.str (Str.ofString "symbols") 424] }),
(190, { cls := Value.type "tuple", data := Data.seq #[] }),
(192, { cls := Value.type "code", data := Data.fields #[Value.str (Str.ofString "instantiation_error") 421, Value.str (Str.ofString "instantiation_error") 422, Value.str (Str.ofString "/claim/cut.py") 423, Value.int 92 0, Value.int 1 0, Value.int 0 0, Value.int 0 0, Value.int 3 0, Value.ref 187, Value.bool true, Value.int 181 0, Value.ref 188, Value.none, Value.ref 189, Value.ref 190, Value.ref 191, Value.int 425 0, Value.int 92 0, Value.str (Str.ofString "/claim/cut.py") 426] }),
(193, { cls := Value.type "function", data := Data.func { name := Str.ofString "instantiation_error", qualname := Str.ofString "instantiation_error", params := aP 19 1000, body := FuncBody.stmts (aB 19 1000), scope := aS 19 1000, globals := 3, closure := [], defaults := Value.none, kwdefaults := Value.none, pyModule := Value.str (Str.ofString "clausemill.terms") 386, code := Value.ref 192 } }),
(194, { cls := Value.type "tuple", data := Data.seq #[] }),
(196, { cls := Value.type "tuple", data := Data.seq #[Value.str (Str.ofString "symbols") 431, Value.str (Str.ofString "kind") 432, Value.str (Str.ofString "culprit") 433] }),
(197, { cls := Value.type "tuple", data := Data.seq #[] }),
(199, { cls := Value.type "code", data := Data.fields #[Value.str (Str.ofString "type_error") 428, Value.str (Str.ofString "type_error") 429, Value.str (Str.ofString "/claim/cut.py") 430, Value.int 94 0, Value.int 3 0, Value.int 0 0, Value.int 0 0, Value.int 3 0, Value.ref 194, Value.bool true, Value.int 181 0, Value.ref 195, Value.none, Value.ref 196, Value.ref 197, Value.ref 198, Value.int 434 0, Value.int 94 0, Value.str (Str.ofString "/claim/cut.py") 435] }),
(200, { cls := Value.type "function", data := Data.func { name := Str.ofString "type_error", qualname := Str.ofString "type_error", params := aP 20 1000, body := FuncBody.stmts (aB 20 1000), scope := aS 20 1000, globals := 3, closure := [], defaults := Value.none, kwdefaults := Value.none, pyModule := Value.str (Str.ofString "clausemill.terms") 386, code := Value.ref 199 } }),
(201, { cls := Value.type "tuple", data := Data.seq #[] }),
(203, { cls := Value.type "tuple", data := Data.seq #[Value.str (Str.ofString "symbols") 440, Value.str (Str.ofString "kind") 441, Value.str (Str.ofString "culprit") 442] }),
(204, { cls := Value.type "tuple", data := Data.seq #[] }),
(206, { cls := Value.type "code", data := Data.fields #[Value.str (Str.ofString "domain_error") 437, Value.str (Str.ofString "domain_error") 438, Value.str (Str.ofString "/claim/cut.py") 439, Value.int 96 0, Value.int 3 0, Value.int 0 0, Value.int 0 0, Value.int 3 0, Value.ref 201, Value.bool true, Value.int 181 0, Value.ref 202, Value.none, Value.ref 203, Value.ref 204, Value.ref 205, Value.int 443 0, Value.int 96 0, Value.str (Str.ofString "/claim/cut.py") 444] }),
(207, { cls := Value.type "function", data := Data.func { name := Str.ofString "domain_error", qualname := Str.ofString "domain_error", params := aP 21 1000, body := FuncBody.stmts (aB 21 1000), scope := aS 21 1000, globals := 3, closure := [], defaults := Value.none, kwdefaults := Value.none, pyModule := Value.str (Str.ofString "clausemill.terms") 386, code := Value.ref 206 } }),
(208, { cls := Value.type "tuple", data := Data.seq #[] }),
(210, { cls := Value.type "tuple", data := Data.seq #[Value.str (Str.ofString "symbols") 449, Value.str (Str.ofString "action") 450, Value.str (Str.ofString "kind") 451, Value.str (Str.ofString "culprit") 452] }),
(211, { cls := Value.type "tuple", data := Data.seq #[] }),
(213, { cls := Value.type "code", data := Data.fields #[Value.str (Str.ofString "permission_error") 446, Value.str (Str.ofString "permission_error") 447, Value.str (Str.ofString "/claim/cut.py") 448, Value.int 98 0, Value.int 4 0, Value.int 0 0, Value.int 0 0, Value.int 3 0, Value.ref 208, Value.bool true, Value.int 181 0, Value.ref 209, Value.none, Value.ref 210, Value.ref 211, Value.ref 212, Value.int 453 0, Value.int 98 0, Value.str (Str.ofString "/claim/cut.py") 454] }),
(214, { cls := Value.type "function", data := Data.func { name := Str.ofString "permission_error", qualname := Str.ofString "permission_error", params := aP 22 1000, body := FuncBody.stmts (aB 22 1000), scope := aS 22 1000, globals := 3, closure := [], defaults := Value.none, kwdefaults := Value.none, pyModule := Value.str (Str.ofString "clausemill.terms") 386, code := Value.ref 213 } }),
(215, { cls := Value.type "tuple", data := Data.seq #[Value.str (Str.ofString "fx") 462, Value.str (Str.ofString "fy") 463] }),
(216, { cls := Value.type "tuple", data := Data.seq #[Value.str (Str.ofString "xfx") 465, Value.str (Str.ofString "xfy") 466, Value.str (Str.ofString "yfx") 467] }),
(217, { cls := Value.type "tuple", data := Data.seq #[Value.str (Str.ofString "xf") 469, Value.str (Str.ofString "yf") 470] }),
(218, { cls := Value.type "tuple", data := Data.seq #[] }),
(220, { cls := Value.type "tuple", data := Data.seq #[] }),
(221, { cls := Value.type "tuple", data := Data.seq #[] }),
(223, { cls := Value.type "code", data := Data.fields #[Value.str (Str.ofString "standard_rows") 472, Value.str (Str.ofString "standard_rows") 473, Value.str (Str.ofString "/claim/cut.py") 474, Value.int 106 0, Value.int 0 0, Value.int 0 0, Value.int 0 0, Value.int 3 0, Value.ref 218, Value.bool true, Value.int 181 0, Value.ref 219, Value.none, Value.ref 220, Value.ref 221, Value.ref 222, Value.int 475 0, Value.int 106 0, Value.str (Str.ofString "/claim/cut.py") 476] }),
(224, { cls := Value.type "function", data := Data.func { name := Str.ofString "standard_rows", qualname := Str.ofString "standard_rows", params := aP 29 1000, body := FuncBody.stmts (aB 29 1000), scope := aS 29 1000, globals := 3, closure := [], defaults := Value.none, kwdefaults := Value.none, pyModule := Value.str (Str.ofString "clausemill.operators") 456, code := Value.ref 223 } }),
(225, { cls := Value.type "tuple", data := Data.seq #[] }),
(227, { cls := Value.type "tuple", data := Data.seq #[Value.str (Str.ofString "type_text") 481] }),
(228, { cls := Value.type "tuple", data := Data.seq #[] }),
(230, { cls := Value.type "code", data := Data.fields #[Value.str (Str.ofString "fixity") 478, Value.str (Str.ofString "fixity") 479, Value.str (Str.ofString "/claim/cut.py") 480, Value.int 108 0, Value.int 1 0, Value.int 0 0, Value.int 0 0, Value.int 3 0, Value.ref 225, Value.bool true, Value.int 181 0, Value.ref 226, Value.none, Value.ref 227, Value.ref 228, Value.ref 229, Value.int 482 0, Value.int 108 0, Value.str (Str.ofString "/claim/cut.py") 483] }),
(231, { cls := Value.type "function", data := Data.func { name := Str.ofString "fixity", qualname := Str.ofString "fixity", params := aP 30 1000, body := FuncBody.stmts (aB 30 1000), scope := aS 30 1000, globals := 3, closure := [], defaults := Value.none, kwdefaults := Value.none, pyModule := Value.str (Str.ofString "clausemill.operators") 456, code := Value.ref 230 } }),
(239, { cls := Value.type "tuple", data := Data.seq #[Value.bool true] }),
(240, { cls := Value.type "tuple", data := Data.seq #[] }),
(242, { cls := Value.type "tuple", data := Data.seq #[Value.str (Str.ofString "self") 500, Value.str (Str.ofString "symbols") 501, Value.str (Str.ofString "standard") 502, Value.str (Str.ofString "priority") 503, Value.str (Str.ofString "type_text") 504, Value.str (Str.ofString "names") 505, Value.str (Str.ofString "name") 506] }),
(243, { cls := Value.type "tuple", data := Data.seq #[] }),
(245, { cls := Value.type "code", data := Data.fields #[Value.str (Str.ofString "__init__") 497, Value.str (Str.ofString "OperatorTable.__init__") 498, Value.str (Str.ofString "/claim/cut.py") 499, Value.int 118 0, Value.int 3 0, Value.int 0 0, Value.int 0 0, Value.int 3 0, Value.ref 240, Value.bool true, Value.int 181 0, Value.ref 241, Value.none, Value.ref 242, Value.ref 243, Value.ref 244, Value.int 507 0, Value.int 118 0, Value.str (Str.ofString "/claim/cut.py") 508] }),
(246, { cls := Value.type "function", data := Data.func { name := Str.ofString "__init__", qualname := Str.ofString "OperatorTable.__init__", params := aP 31 0, body := FuncBody.stmts (aB 31 0), scope := aS 31 0, globals := 3, closure := [], defaults := Value.ref 239, kwdefaults := Value.none, pyModule := Value.str (Str.ofString "clausemill.operators") 456, code := Value.ref 245 } }),
(247, { cls := Value.type "tuple", data := Data.seq #[] }),
(249, { cls := Value.type "tuple", data := Data.seq #[Value.str (Str.ofString "self") 513, Value.str (Str.ofString "a") 514] }),
(250, { cls := Value.type "tuple", data := Data.seq #[] }),
(252, { cls := Value.type "code", data := Data.fields #[Value.str (Str.ofString "prefix") 510, Value.str (Str.ofString "OperatorTable.prefix") 511, Value.str (Str.ofString "/claim/cut.py") 512, Value.int 129 0, Value.int 2 0, Value.int 0 0, Value.int 0 0, Value.int 3 0, Value.ref 247, Value.bool true, Value.int 181 0, Value.ref 248, Value.none, Value.ref 249, Value.ref 250, Value.ref 251, Value.int 515 0, Value.int 129 0, Value.str (Str.ofString "/claim/cut.py") 516] }),
(253, { cls := Value.type "function", data := Data.func { name := Str.ofString "prefix", qualname := Str.ofString "OperatorTable.prefix", params := aP 31 1, body := FuncBody.stmts (aB 31 1), scope := aS 31 1, globals := 3, closure := [], defaults := Value.none, kwdefaults := Value.none, pyModule := Value.str (Str.ofString "clausemill.operators") 456, code := Value.ref 252 } }),
(254, { cls := Value.type "tuple", data := Data.seq #[] }),
(256, { cls := Value.type "tuple", data := Data.seq #[Value.str (Str.ofString "self") 521, Value.str (Str.ofString "a") 522] }),
(257, { cls := Value.type "tuple", data := Data.seq #[] }),
(259, { cls := Value.type "code", data := Data.fields #[Value.str (Str.ofString "infix") 518, Value.str (Str.ofString "OperatorTable.infix") 519, Value.str (Str.ofString "/claim/cut.py") 520, Value.int 132 0, Value.int 2 0, Value.int 0 0, Value.int 0 0, Value.int 3 0, Value.ref 254, Value.bool true, Value.int 181 0, Value.ref 255, Value.none, Value.ref 256, Value.ref 257, Value.ref 258, Value.int 523 0, Value.int 132 0, Value.str (Str.ofString "/claim/cut.py") 524] }),
(260, { cls := Value.type "function", data := Data.func { name := Str.ofString "infix", qualname := Str.ofString "OperatorTable.infix", params := aP 31 2, body := FuncBody.stmts (aB 31 2), scope := aS 31 2, globals := 3, closure := [], defaults := Value.none, kwdefaults := Value.none, pyModule := Value.str (Str.ofString "clausemill.operators") 456, code := Value.ref 259 } }),
(261, { cls := Value.type "tuple", data := Data.seq #[] }),
(263, { cls := Value.type "tuple", data := Data.seq #[Value.str (Str.ofString "self") 529, Value.str (Str.ofString "a") 530] }),
(264, { cls := Value.type "tuple", data := Data.seq #[] }),
(266, { cls := Value.type "code", data := Data.fields #[Value.str (Str.ofString "postfix") 526, Value.str (Str.ofString "OperatorTable.postfix") 527, Value.str (Str.ofString "/claim/cut.py") 528, Value.int 135 0, Value.int 2 0, Value.int 0 0, Value.int 0 0, Value.int 3 0, Value.ref 261, Value.bool true, Value.int 181 0, Value.ref 262, Value.none, Value.ref 263, Value.ref 264, Value.ref 265, Value.int 531 0, Value.int 135 0, Value.str (Str.ofString "/claim/cut.py") 532] }),
(267, { cls := Value.type "function", data := Data.func { name := Str.ofString "postfix", qualname := Str.ofString "OperatorTable.postfix", params := aP 31 3, body := FuncBody.stmts (aB 31 3), scope := aS 31 3, globals := 3, closure := [], defaults := Value.none, kwdefaults := Value.none, pyModule := Value.str (Str.ofString "clausemill.operators") 456, code := Value.ref 266 } }),
(268, { cls := Value.type "tuple", data := Data.seq #[] }),
(270, { cls := Value.type "tuple", data := Data.seq #[Value.str (Str.ofString "self") 537, Value.str (Str.ofString "a") 538] }),
(271, { cls := Value.type "tuple", data := Data.seq #[] }),
(273, { cls := Value.type "code", data := Data.fields #[Value.str (Str.ofString "is_operator") 534, Value.str (Str.ofString "OperatorTable.is_operator") 535, Value.str (Str.ofString "/claim/cut.py") 536, Value.int 138 0, Value.int 2 0, Value.int 0 0, Value.int 0 0, Value.int 3 0, Value.ref 268, Value.bool true, Value.int 181 0, Value.ref 269, Value.none, Value.ref 270, Value.ref 271, Value.ref 272, Value.int 539 0, Value.int 138 0, Value.str (Str.ofString "/claim/cut.py") 540] }),
(274, { cls := Value.type "function", data := Data.func { name := Str.ofString "is_operator", qualname := Str.ofString "OperatorTable.is_operator", params := aP 31 4, body := FuncBody.stmts (aB 31 4), scope := aS 31 4, globals := 3, closure := [], defaults := Value.none, kwdefaults := Value.none, pyModule := Value.str (Str.ofString "clausemill.operators") 456, code := Value.ref 273 } }),
(275, { cls := Value.type "tuple", data := Data.seq #[] }),
(277, { cls := Value.type "tuple", data := Data.seq #[Value.str (Str.ofString "self") 545, Value.str (Str.ofString "type_text") 546, Value.str (Str.ofString "kind") 547] }),
(278, { cls := Value.type "tuple", data := Data.seq #[] }),
(280, { cls := Value.type "code", data := Data.fields #[Value.str (Str.ofString "table_of") 542, Value.str (Str.ofString "OperatorTable.table_of") 543, Value.str (Str.ofString "/claim/cut.py") 544, Value.int 141 0, Value.int 2 0, Value.int 0 0, Value.int 0 0, Value.int 3 0, Value.ref 275, Value.bool true, Value.int 181 0, Value.ref 276, Value.none, Value.ref 277, Value.ref 278, Value.ref 279, Value.int 548 0, Value.int 141 0, Value.str (Str.ofString "/claim/cut.py") 549] }),
(281, { cls := Value.type "function", data := Data.func { name := Str.ofString "table_of", qualname := Str.ofString "OperatorTable.table_of", params := aP 31 5, body := FuncBody.stmts (aB 31 5), scope := aS 31 5, globals := 3, closure := [], defaults := Value.none, kwdefaults := Value.none, pyModule := Value.str (Str.ofString "clausemill.operators") 456, code := Value.ref 280 } }),
(282, { cls := Value.type "tuple", data := Data.seq #[] }),
(284, { cls := Value.type "tuple", data := Data.seq #[Value.str (Str.ofString "self") 554, Value.str (Str.ofString "priority") 555, Value.str (Str.ofString "type_text") 556, Value.str (Str.ofString "a") 557, Value.str (Str.ofString "table") 558] }),
(285, { cls := Value.type "tuple", data := Data.seq #[] }),
(287, { cls := Value.type "code", data := Data.fields #[Value.str (Str.ofString "add") 551, Value.str (Str.ofString "OperatorTable.add") 552, Value.str (Str.ofString "/claim/cut.py") 553, Value.int 149 0, Value.int 4 0, Value.int 0 0, Value.int 0 0, Value.int 3 0, Value.ref 282, Value.bool true, Value.int 181 0, Value.ref 283, Value.none, Value.ref 284, Value.ref 285, Value.ref 286, Value.int 559 0, Value.int 149 0, Value.str (Str.ofString "/claim/cut.py") 560] }),
(288, { cls := Value.type "function", data := Data.func { name := Str.ofString "add", qualname := Str.ofString "OperatorTable.add", params := aP 31 6, body := FuncBody.stmts (aB 31 6), scope := aS 31 6, globals := 3, closure := [], defaults := Value.none, kwdefaults := Value.none, pyModule := Value.str (Str.ofString "clausemill.operators") 456, code := Value.ref 287 } }),
(289, { cls := Value.type "tuple", data := Data.seq #[] }),
(291, { cls := Value.type "tuple", data := Data.seq #[Value.str (Str.ofString "self") 565, Value.str (Str.ofString "found") 566, Value.str (Str.ofString "table") 567, Value.str (Str.ofString "a") 568, Value.str (Str.ofString "entry") 569] }),
(292, { cls := Value.type "tuple", data := Data.seq #[] }),
(294, { cls := Value.type "code", data := Data.fields #[Value.str (Str.ofString "rows") 562, Value.str (Str.ofString "OperatorTable.rows") 563, Value.str (Str.ofString "/claim/cut.py") 564, Value.int 156 0, Value.int 1 0, Value.int 0 0, Value.int 0 0, Value.int 3 0, Value.ref 289, Value.bool true, Value.int 181 0, Value.ref 290, Value.none, Value.ref 291, Value.ref 292, Value.ref 293, Value.int 570 0, Value.int 156 0, Value.str (Str.ofString "/claim/cut.py") 571] }),
(295, { cls := Value.type "function", data := Data.func { name := Str.ofString "rows", qualname := Str.ofString "OperatorTable.rows", params := aP 31 7, body := FuncBody.stmts (aB 31 7), scope := aS 31 7, globals := 3, closure := [], defaults := Value.none, kwdefaults := Value.none, pyModule := Value.str (Str.ofString "clausemill.operators") 456, code := Value.ref 294 } }),
(296, { cls := Value.type "tuple", data := Data.seq #[Value.str (Str.ofString "infixes") 573, Value.str (Str.ofString "postfixes") 574, Value.str (Str.ofString "prefixes") 575, Value.str (Str.ofString "symbols") 576] }),
(297, { cls := Value.type "dict", data := Data.dict #[{ hash := PyData.keyHash P (Str.ofString "__module__"), key := Value.str (Str.ofString "__module__") 492, val := Value.str (Str.ofString "clausemill.operators") 456 }, { hash := PyData.keyHash P (Str.ofString "__firstlineno__"), key := Value.str (Str.ofString "__firstlineno__") 496, val := Value.int 116 495 }, { hash := PyData.keyHash P (Str.ofString "__init__"), key := Value.str (Str.ofString "__init__") 509, val := Value.ref 246 }, { hash := PyData.keyHash P (Str.ofString "prefix"), key := Value.str (Str.ofString "prefix") 517, val := Value.ref 253 }, { hash := PyData.keyHash P (Str.ofString "infix"), key := Value.str (Str.ofString "infix") 525, val := Value.ref 260 }, { hash := PyData.keyHash P (Str.ofString "postfix"), key := Value.str (Str.ofString "postfix") 533, val := Value.ref 267 }, { hash := PyData.keyHash P (Str.ofString "is_operator"), key := Value.str (Str.ofString "is_operator") 541, val := Value.ref 274 }, { hash := PyData.keyHash P (Str.ofString "table_of"), key := Value.str (Str.ofString "table_of") 550, val := Value.ref 281 }, { hash := PyData.keyHash P (Str.ofString "add"), key := Value.str (Str.ofString "add") 561, val := Value.ref 288 }, { hash := PyData.keyHash P (Str.ofString "rows"), key := Value.str (Str.ofString "rows") 572, val := Value.ref 295 }, { hash := PyData.keyHash P (Str.ofString "__static_attributes__"), key := Value.str (Str.ofString "__static_attributes__") 577, val := Value.ref 296 }, { hash := PyData.keyHash P (Str.ofString "__dict__"), key := Value.str (Str.ofString "__dict__") 579, val := Value.ref 299 }, { hash := PyData.keyHash P (Str.ofString "__weakref__"), key := Value.str (Str.ofString "__weakref__") 581, val := Value.ref 300 }, { hash := PyData.keyHash P (Str.ofString "__doc__"), key := Value.str (Str.ofString "__doc__") 582, val := Value.none }] 4 }),
(298, { cls := Value.type "type", data := Data.cls { name := Str.ofString "OperatorTable", bases := [Value.type "object"], mro := [Value.ref 298, Value.type "object"], ns := 297, qualname := Str.ofString "OperatorTable", subclasses := [Value.ref 347] }, slots := #[none, none, some (Value.str (Str.ofString "OperatorTable") 485), some (Value.str (Str.ofString "OperatorTable") 493), some (Value.builtin "object.__new__"), some (Value.bool true)] }),
(299, { cls := Value.type "getset_descriptor", data := Data.fields #[Value.str (Str.ofString "__dict__") 578, Value.ref 298, Value.builtin "function.__dict__", Value.builtin "function.__dict__#set"] }),
(300, { cls := Value.type "getset_descriptor", data := Data.fields #[Value.str (Str.ofString "__weakref__") 580, Value.ref 298, Value.builtin "ExceptionGroup.__weakref__", Value.none] }),
(303, { cls := Value.type "tuple", data := Data.seq #[Value.ref 298] }),
(310, { cls := Value.type "tuple", data := Data.seq #[] }),
(312, { cls := Value.type "tuple", data := Data.seq #[Value.str (Str.ofString "self") 600, Value.str (Str.ofString "priority_term") 601, Value.str (Str.ofString "type_term") 602, Value.str (Str.ofString "name_term") 603, Value.str (Str.ofString "items") 604, Value.str (Str.ofString "priority") 605, Value.str (Str.ofString "type_text") 606, Value.str (Str.ofString "item") 607] }),
(313, { cls := Value.type "tuple", data := Data.seq #[] }),
(315, { cls := Value.type "code", data := Data.fields #[Value.str (Str.ofString "declare") 597, Value.str (Str.ofString "Operators.declare") 598, Value.str (Str.ofString "/claim/cut.py") 599, Value.int 164 0, Value.int 4 0, Value.int 0 0, Value.int 0 0, Value.int 3 0, Value.ref 310, Value.bool true, Value.int 181 0, Value.ref 311, Value.none, Value.ref 312, Value.ref 313, Value.ref 314, Value.int 608 0, Value.int 164 0, Value.str (Str.ofString "/claim/cut.py") 609] }),
(316, { cls := Value.type "function", data := Data.func { name := Str.ofString "declare", qualname := Str.ofString "Operators.declare", params := aP 32 0, body := FuncBody.stmts (aB 32 0), scope := aS 32 0, globals := 3, closure := [], defaults := Value.none, kwdefaults := Value.none, pyModule := Value.str (Str.ofString "clausemill.operators") 456, code := Value.ref 315 } }),
(317, { cls := Value.type "tuple", data := Data.seq #[] }),
(319, { cls := Value.type "tuple", data := Data.seq #[Value.str (Str.ofString "self") 614, Value.str (Str.ofString "name_term") 615, Value.str (Str.ofString "items") 616, Value.str (Str.ofString "tail") 617] }),
(320, { cls := Value.type "tuple", data := Data.seq #[] }),
(322, { cls := Value.type "code", data := Data.fields #[Value.str (Str.ofString "names_of") 611, Value.str (Str.ofString "Operators.names_of") 612, Value.str (Str.ofString "/claim/cut.py") 613, Value.int 179 0, Value.int 2 0, Value.int 0 0, Value.int 0 0, Value.int 3 0, Value.ref 317, Value.bool true, Value.int 181 0, Value.ref 318, Value.none, Value.ref 319, Value.ref 320, Value.ref 321, Value.int 618 0, Value.int 179 0, Value.str (Str.ofString "/claim/cut.py") 619] }),
(323, { cls := Value.type "function", data := Data.func { name := Str.ofString "names_of", qualname := Str.ofString "Operators.names_of", params := aP 32 1, body := FuncBody.stmts (aB 32 1), scope := aS 32 1, globals := 3, closure := [], defaults := Value.none, kwdefaults := Value.none, pyModule := Value.str (Str.ofString "clausemill.operators") 456, code := Value.ref 322 } }),
(324, { cls := Value.type "tuple", data := Data.seq #[] }),
(326, { cls := Value.type "tuple", data := Data.seq #[Value.str (Str.ofString "self") 624, Value.str (Str.ofString "priority_term") 625, Value.str (Str.ofString "type_term") 626, Value.str (Str.ofString "name_term") 627, Value.str (Str.ofString "items") 628, Value.str (Str.ofString "tail") 629, Value.str (Str.ofString "item") 630] }),
(327, { cls := Value.type "tuple", data := Data.seq #[] }),
(329, { cls := Value.type "code", data := Data.fields #[Value.str (Str.ofString "check_instantiated") 621, Value.str (Str.ofString "Operators.check_instantiated") 622, Value.str (Str.ofString "/claim/cut.py") 623, Value.int 187 0, Value.int 5 0, Value.int 0 0, Value.int 0 0, Value.int 3 0, Value.ref 324, Value.bool true, Value.int 181 0, Value.ref 325, Value.none, Value.ref 326, Value.ref 327, Value.ref 328, Value.int 631 0, Value.int 187 0, Value.str (Str.ofString "/claim/cut.py") 632] }),
(330, { cls := Value.type "function", data := Data.func { name := Str.ofString "check_instantiated", qualname := Str.ofString "Operators.check_instantiated", params := aP 32 2, body := FuncBody.stmts (aB 32 2), scope := aS 32 2, globals := 3, closure := [], defaults := Value.none, kwdefaults := Value.none, pyModule := Value.str (Str.ofString "clausemill.operators") 456, code := Value.ref 329 } }),
(331, { cls := Value.type "tuple", data := Data.seq #[] }),
(333, { cls := Value.type "tuple", data := Data.seq #[Value.str (Str.ofString "self") 637, Value.str (Str.ofString "priority_term") 638, Value.str (Str.ofString "type_term") 639, Value.str (Str.ofString "name_term") 640, Value.str (Str.ofString "items") 641, Value.str (Str.ofString "item") 642] }),
(334, { cls := Value.type "tuple", data := Data.seq #[] }),
(336, { cls := Value.type "code", data := Data.fields #[Value.str (Str.ofString "check_types") 634, Value.str (Str.ofString "Operators.check_types") 635, Value.str (Str.ofString "/claim/cut.py") 636, Value.int 198 0, Value.int 5 0, Value.int 0 0, Value.int 0 0, Value.int 3 0, Value.ref 331, Value.bool true, Value.int 181 0, Value.ref 332, Value.none, Value.ref 333, Value.ref 334, Value.ref 335, Value.int 643 0, Value.int 198 0, Value.str (Str.ofString "/claim/cut.py") 644] }),
(337, { cls := Value.type "function", data := Data.func { name := Str.ofString "check_types", qualname := Str.ofString "Operators.check_types", params := aP 32 3, body := FuncBody.stmts (aB 32 3), scope := aS 32 3, globals := 3, closure := [], defaults := Value.none, kwdefaults := Value.none, pyModule := Value.str (Str.ofString "clausemill.operators") 456, code := Value.ref 336 } }),
(338, { cls := Value.type "tuple", data := Data.seq #[] }),
(340, { cls := Value.type "tuple", data := Data.seq #[Value.str (Str.ofString "self") 649, Value.str (Str.ofString "priority") 650, Value.str (Str.ofString "type_text") 651, Value.str (Str.ofString "a") 652, Value.str (Str.ofString "kind") 653, Value.str (Str.ofString "refused") 654] }),
(341, { cls := Value.type "tuple", data := Data.seq #[] }),
(343, { cls := Value.type "code", data := Data.fields #[Value.str (Str.ofString "check_permission") 646, Value.str (Str.ofString "Operators.check_permission") 647, Value.str (Str.ofString "/claim/cut.py") 648, Value.int 209 0, Value.int 4 0, Value.int 0 0, Value.int 0 0, Value.int 3 0, Value.ref 338, Value.bool true, Value.int 181 0, Value.ref 339, Value.none, Value.ref 340, Value.ref 341, Value.ref 342, Value.int 655 0, Value.int 209 0, Value.str (Str.ofString "/claim/cut.py") 656] }),
(344, { cls := Value.type "function", data := Data.func { name := Str.ofString "check_permission", qualname := Str.ofString "Operators.check_permission", params := aP 32 4, body := FuncBody.stmts (aB 32 4), scope := aS 32 4, globals := 3, closure := [], defaults := Value.none, kwdefaults := Value.none, pyModule := Value.str (Str.ofString "clausemill.operators") 456, code := Value.ref 343 } }),
(345, { cls := Value.type "tuple", data := Data.seq #[] }),
(346, { cls := Value.type "dict", data := Data.dict #[{ hash := PyData.keyHash P (Str.ofString "__module__"), key := Value.str (Str.ofString "__module__") 592, val := Value.str (Str.ofString "clausemill.operators") 456 }, { hash := PyData.keyHash P (Str.ofString "__firstlineno__"), key := Value.str (Str.ofString "__firstlineno__") 596, val := Value.int 162 595 }, { hash := PyData.keyHash P (Str.ofString "declare"), key := Value.str (Str.ofString "declare") 610, val := Value.ref 316 }, { hash := PyData.keyHash P (Str.ofString "names_of"), key := Value.str (Str.ofString "names_of") 620, val := Value.ref 323 }, { hash := PyData.keyHash P (Str.ofString "check_instantiated"), key := Value.str (Str.ofString "check_instantiated") 633, val := Value.ref 330 }, { hash := PyData.keyHash P (Str.ofString "check_types"), key := Value.str (Str.ofString "check_types") 645, val := Value.ref 337 }, { hash := PyData.keyHash P (Str.ofString "check_permission"), key := Value.str (Str.ofString "check_permission") 657, val := Value.ref 344 }, { hash := PyData.keyHash P (Str.ofString "__static_attributes__"), key := Value.str (Str.ofString "__static_attributes__") 658, val := Value.ref 345 }, { hash := PyData.keyHash P (Str.ofString "__doc__"), key := Value.str (Str.ofString "__doc__") 659, val := Value.none }] 2 }),
(347, { cls := Value.type "type", data := Data.cls { name := Str.ofString "Operators", bases := [Value.ref 298], mro := [Value.ref 347, Value.ref 298, Value.type "object"], ns := 346, qualname := Str.ofString "Operators" }, slots := #[some (Value.ref 303), none, some (Value.str (Str.ofString "Operators") 585), some (Value.str (Str.ofString "Operators") 593), some (Value.builtin "object.__new__"), some (Value.bool true)] }),
(350, { cls := Value.type "tuple", data := Data.seq #[] }),
(352, { cls := Value.type "tuple", data := Data.seq #[Value.str (Str.ofString "script") 667, Value.str (Str.ofString "figures") 668, Value.str (Str.ofString "mix") 669, Value.str (Str.ofString "cell") 670, Value.str (Str.ofString "whole") 671, Value.str (Str.ofString "rest") 672, Value.str (Str.ofString "step") 673] }),
(353, { cls := Value.type "tuple", data := Data.seq #[] }),
(355, { cls := Value.type "code", data := Data.fields #[Value.str (Str.ofString "_law_pool") 664, Value.str (Str.ofString "_law_pool") 665, Value.str (Str.ofString "/claim/cut.py") 666, Value.int 225 0, Value.int 1 0, Value.int 0 0, Value.int 0 0, Value.int 3 0, Value.ref 350, Value.bool true, Value.int 181 0, Value.ref 351, Value.none, Value.ref 352, Value.ref 353, Value.ref 354, Value.int 674 0, Value.int 225 0, Value.str (Str.ofString "/claim/cut.py") 675] }),
(356, { cls := Value.type "function", data := Data.func { name := Str.ofString "_law_pool", qualname := Str.ofString "_law_pool", params := aP 34 1000, body := FuncBody.stmts (aB 34 1000), scope := aS 34 1000, globals := 3, closure := [], defaults := Value.none, kwdefaults := Value.none, pyModule := Value.str (Str.ofString "law_no0162_01") 662, code := Value.ref 355 } }),
(357, { cls := Value.type "tuple", data := Data.seq #[] }),
(359, { cls := Value.type "tuple", data := Data.seq #[Value.str (Str.ofString "pool") 680, Value.str (Str.ofString "bound") 681, Value.str (Str.ofString "figure") 682] }),
(360, { cls := Value.type "tuple", data := Data.seq #[] }),
(362, { cls := Value.type "code", data := Data.fields #[Value.str (Str.ofString "_law_pick") 677, Value.str (Str.ofString "_law_pick") 678, Value.str (Str.ofString "/claim/cut.py") 679, Value.int 240 0, Value.int 2 0, Value.int 0 0, Value.int 0 0, Value.int 3 0, Value.ref 357, Value.bool true, Value.int 181 0, Value.ref 358, Value.none, Value.ref 359, Value.ref 360, Value.ref 361, Value.int 683 0, Value.int 240 0, Value.str (Str.ofString "/claim/cut.py") 684] }),
(363, { cls := Value.type "function", data := Data.func { name := Str.ofString "_law_pick", qualname := Str.ofString "_law_pick", params := aP 35 1000, body := FuncBody.stmts (aB 35 1000), scope := aS 35 1000, globals := 3, closure := [], defaults := Value.none, kwdefaults := Value.none, pyModule := Value.str (Str.ofString "law_no0162_01") 662, code := Value.ref 362 } }),
(364, { cls := Value.type "tuple", data := Data.seq #[] }),
(366, { cls := Value.type "tuple", data := Data.seq #[Value.str (Str.ofString "text") 689] }),
(367, { cls := Value.type "tuple", data := Data.seq #[] }),
(369, { cls := Value.type "code", data := Data.fields #[Value.str (Str.ofString "_law_class") 686, Value.str (Str.ofString "_law_class") 687, Value.str (Str.ofString "/claim/cut.py") 688, Value.int 250 0, Value.int 1 0, Value.int 0 0, Value.int 0 0, Value.int 3 0, Value.ref 364, Value.bool true, Value.int 181 0, Value.ref 365, Value.none, Value.ref 366, Value.ref 367, Value.ref 368, Value.int 690 0, Value.int 250 0, Value.str (Str.ofString "/claim/cut.py") 691] }),
(370, { cls := Value.type "function", data := Data.func { name := Str.ofString "_law_class", qualname := Str.ofString "_law_class", params := aP 36 1000, body := FuncBody.stmts (aB 36 1000), scope := aS 36 1000, globals := 3, closure := [], defaults := Value.none, kwdefaults := Value.none, pyModule := Value.str (Str.ofString "law_no0162_01") 662, code := Value.ref 369 } }),
(371, { cls := Value.type "tuple", data := Data.seq #[] }),
(373, { cls := Value.type "tuple", data := Data.seq #[Value.str (Str.ofString "rows") 696, Value.str (Str.ofString "model") 697, Value.str (Str.ofString "row") 698, Value.str (Str.ofString "words") 699, Value.str (Str.ofString "name") 700] }),
(374, { cls := Value.type "tuple", data := Data.seq #[] }),
(376, { cls := Value.type "code", data := Data.fields #[Value.str (Str.ofString "_law_standard") 693, Value.str (Str.ofString "_law_standard") 694, Value.str (Str.ofString "/claim/cut.py") 695, Value.int 258 0, Value.int 0 0, Value.int 0 0, Value.int 0 0, Value.int 3 0, Value.ref 371, Value.bool true, Value.int 181 0, Value.ref 372, Value.none, Value.ref 373, Value.ref 374, Value.ref 375, Value.int 701 0, Value.int 258 0, Value.str (Str.ofString "/claim/cut.py") 702] }),
(377, { cls := Value.type "function", data := Data.func { name := Str.ofString "_law_standard", qualname := Str.ofString "_law_standard", params := aP 37 1000, body := FuncBody.stmts (aB 37 1000), scope := aS 37 1000, globals := 3, closure := [], defaults := Value.none, kwdefaults := Value.none, pyModule := Value.str (Str.ofString "law_no0162_01") 662, code := Value.ref 376 } }),
(378, { cls := Value.type "tuple", data := Data.seq #[] }),
(381, { cls := Value.type "code", data := Data.fields #[Value.str (Str.ofString "_law_formal") 704, Value.str (Str.ofString "_law_formal") 705, Value.str (Str.ofString "/claim/cut.py") 706, Value.int 266 0, Value.int 3 0, Value.int 0 0, Value.int 0 0, Value.int 3 0, Value.ref 378, Value.bool true, Value.int 181 0, Value.ref 379, Value.none, Value.none, Value.none, Value.ref 380, Value.int 707 0, Value.int 266 0, Value.str (Str.ofString "/claim/cut.py") 708] }),
(382, { cls := Value.type "function", data := Data.func { name := Str.ofString "_law_formal", qualname := Str.ofString "_law_formal", params := aP 38 1000, body := FuncBody.stmts (aB 38 1000), scope := aS 38 1000, globals := 3, closure := [], defaults := Value.none, kwdefaults := Value.none, pyModule := Value.str (Str.ofString "law_no0162_01") 662, code := Value.ref 381 } }),
(383, { cls := Value.type "tuple", data := Data.seq #[] }),
(385, { cls := Value.type "tuple", data := Data.seq #[Value.str (Str.ofString "book") 713, Value.str (Str.ofString "model") 714, Value.str (Str.ofString "priority") 715, Value.str (Str.ofString "kind") 716, Value.str (Str.ofString "item") 717, Value.str (Str.ofString "name") 718, Value.str (Str.ofString "place") 719, Value.str (Str.ofString "other") 720] }),
(386, { cls := Value.type "tuple", data := Data.seq #[] }),
(388, { cls := Value.type "code", data := Data.fields #[Value.str (Str.ofString "_law_barred") 710, Value.str (Str.ofString "_law_barred") 711, Value.str (Str.ofString "/claim/cut.py") 712, Value.int 271 0, Value.int 5 0, Value.int 0 0, Value.int 0 0, Value.int 3 0, Value.ref 383, Value.bool true, Value.int 181 0, Value.ref 384, Value.none, Value.ref 385, Value.ref 386, Value.ref 387, Value.int 721 0, Value.int 271 0, Value.str (Str.ofString "/claim/cut.py") 722] }),
(389, { cls := Value.type "function", data := Data.func { name := Str.ofString "_law_barred", qualname := Str.ofString "_law_barred", params := aP 39 1000, body := FuncBody.stmts (aB 39 1000), scope := aS 39 1000, globals := 3, closure := [], defaults := Value.none, kwdefaults := Value.none, pyModule := Value.str (Str.ofString "law_no0162_01") 662, code := Value.ref 388 } }),
(390, { cls := Value.type "tuple", data := Data.seq #[] }),
(393, { cls := Value.type "code", data := Data.fields #[Value.str (Str.ofString "_law_due") 724, Value.str (Str.ofString "_law_due") 725, Value.str (Str.ofString "/claim/cut.py") 726, Value.int 284 0, Value.int 5 0, Value.int 0 0, Value.int 0 0, Value.int 3 0, Value.ref 390, Value.bool true, Value.int 181 0, Value.ref 391, Value.none, Value.none, Value.none, Value.ref 392, Value.int 727 0, Value.int 284 0, Value.str (Str.ofString "/claim/cut.py") 728] }),
(394, { cls := Value.type "function", data := Data.func { name := Str.ofString "_law_due", qualname := Str.ofString "_law_due", params := aP 40 1000, body := FuncBody.stmts (aB 40 1000), scope := aS 40 1000, globals := 3, closure := [], defaults := Value.none, kwdefaults := Value.none, pyModule := Value.str (Str.ofString "law_no0162_01") 662, code := Value.ref 393 } }),
(395, { cls := Value.type "tuple", data := Data.seq #[] }),
(397, { cls := Value.type "tuple", data := Data.seq #[Value.str (Str.ofString "pool") 733, Value.str (Str.ofString "book") 734, Value.str (Str.ofString "cells") 735, Value.str (Str.ofString "kind") 736] }),
(398, { cls := Value.type "tuple", data := Data.seq #[] }),
(400, { cls := Value.type "code", data := Data.fields #[Value.str (Str.ofString "_law_odd") 730, Value.str (Str.ofString "_law_odd") 731, Value.str (Str.ofString "/claim/cut.py") 732, Value.int 323 0, Value.int 3 0, Value.int 0 0, Value.int 0 0, Value.int 3 0, Value.ref 395, Value.bool true, Value.int 181 0, Value.ref 396, Value.none, Value.ref 397, Value.ref 398, Value.ref 399, Value.int 737 0, Value.int 323 0, Value.str (Str.ofString "/claim/cut.py") 738] }),
(401, { cls := Value.type "function", data := Data.func { name := Str.ofString "_law_odd", qualname := Str.ofString "_law_odd", params := aP 41 1000, body := FuncBody.stmts (aB 41 1000), scope := aS 41 1000, globals := 3, closure := [], defaults := Value.none, kwdefaults := Value.none, pyModule := Value.str (Str.ofString "law_no0162_01") 662, code := Value.ref 400 } }),
(402, { cls := Value.type "tuple", data := Data.seq #[] }),
(404, { cls := Value.type "tuple", data := Data.seq #[Value.str (Str.ofString "pool") 743, Value.str (Str.ofString "book") 744, Value.str (Str.ofString "cells") 745, Value.str (Str.ofString "names") 746] }),
(405, { cls := Value.type "tuple", data := Data.seq #[] }),
(407, { cls := Value.type "code", data := Data.fields #[Value.str (Str.ofString "_law_name") 740, Value.str (Str.ofString "_law_name") 741, Value.str (Str.ofString "/claim/cut.py") 742, Value.int 332 0, Value.int 3 0, Value.int 0 0, Value.int 0 0, Value.int 3 0, Value.ref 402, Value.bool true, Value.int 181 0, Value.ref 403, Value.none, Value.ref 404, Value.ref 405, Value.ref 406, Value.int 747 0, Value.int 332 0, Value.str (Str.ofString "/claim/cut.py") 748] }),
(408, { cls := Value.type "function", data := Data.func { name := Str.ofString "_law_name", qualname := Str.ofString "_law_name", params := aP 42 1000, body := FuncBody.stmts (aB 42 1000), scope := aS 42 1000, globals := 3, closure := [], defaults := Value.none, kwdefaults := Value.none, pyModule := Value.str (Str.ofString "law_no0162_01") 662, code := Value.ref 407 } }),
(409, { cls := Value.type "tuple", data := Data.seq #[] }),
(411, { cls := Value.type "tuple", data := Data.seq #[Value.str (Str.ofString "pool") 753, Value.str (Str.ofString "book") 754, Value.str (Str.ofString "cells") 755, Value.str (Str.ofString "way") 756] }),
(412, { cls := Value.type "tuple", data := Data.seq #[] }),
(414, { cls := Value.type "code", data := Data.fields #[Value.str (Str.ofString "_law_priority") 750, Value.str (Str.ofString "_law_priority") 751, Value.str (Str.ofString "/claim/cut.py") 752, Value.int 337 0, Value.int 3 0, Value.int 0 0, Value.int 0 0, Value.int 3 0, Value.ref 409, Value.bool true, Value.int 181 0, Value.ref 410, Value.none, Value.ref 411, Value.ref 412, Value.ref 413, Value.int 757 0, Value.int 337 0, Value.str (Str.ofString "/claim/cut.py") 758] }),
(415, { cls := Value.type "function", data := Data.func { name := Str.ofString "_law_priority", qualname := Str.ofString "_law_priority", params := aP 43 1000, body := FuncBody.stmts (aB 43 1000), scope := aS 43 1000, globals := 3, closure := [], defaults := Value.none, kwdefaults := Value.none, pyModule := Value.str (Str.ofString "law_no0162_01") 662, code := Value.ref 414 } }),
(416, { cls := Value.type "tuple", data := Data.seq #[] }),
(418, { cls := Value.type "tuple", data := Data.seq #[Value.str (Str.ofString "pool") 763, Value.str (Str.ofString "book") 764, Value.str (Str.ofString "cells") 765, Value.str (Str.ofString "way") 766] }),
(419, { cls := Value.type "tuple", data := Data.seq #[] }),
(421, { cls := Value.type "code", data := Data.fields #[Value.str (Str.ofString "_law_type") 760, Value.str (Str.ofString "_law_type") 761, Value.str (Str.ofString "/claim/cut.py") 762, Value.int 346 0, Value.int 3 0, Value.int 0 0, Value.int 0 0, Value.int 3 0, Value.ref 416, Value.bool true, Value.int 181 0, Value.ref 417, Value.none, Value.ref 418, Value.ref 419, Value.ref 420, Value.int 767 0, Value.int 346 0, Value.str (Str.ofString "/claim/cut.py") 768] }),
(422, { cls := Value.type "function", data := Data.func { name := Str.ofString "_law_type", qualname := Str.ofString "_law_type", params := aP 44 1000, body := FuncBody.stmts (aB 44 1000), scope := aS 44 1000, globals := 3, closure := [], defaults := Value.none, kwdefaults := Value.none, pyModule := Value.str (Str.ofString "law_no0162_01") 662, code := Value.ref 421 } }),
(423, { cls := Value.type "tuple", data := Data.seq #[] }),
(425, { cls := Value.type "tuple", data := Data.seq #[Value.str (Str.ofString "pool") 773, Value.str (Str.ofString "book") 774, Value.str (Str.ofString "cells") 775, Value.str (Str.ofString "way") 776, Value.str (Str.ofString "items") 777, Value.str (Str.ofString "step") 778, Value.str (Str.ofString "whole") 779, Value.str (Str.ofString "item") 780] }),
(426, { cls := Value.type "tuple", data := Data.seq #[] }),
(428, { cls := Value.type "code", data := Data.fields #[Value.str (Str.ofString "_law_names") 770, Value.str (Str.ofString "_law_names") 771, Value.str (Str.ofString "/claim/cut.py") 772, Value.int 351 0, Value.int 3 0, Value.int 0 0, Value.int 0 0, Value.int 3 0, Value.ref 423, Value.bool true, Value.int 181 0, Value.ref 424, Value.none, Value.ref 425, Value.ref 426, Value.ref 427, Value.int 781 0, Value.int 351 0, Value.str (Str.ofString "/claim/cut.py") 782] }),
(429, { cls := Value.type "function", data := Data.func { name := Str.ofString "_law_names", qualname := Str.ofString "_law_names", params := aP 45 1000, body := FuncBody.stmts (aB 45 1000), scope := aS 45 1000, globals := 3, closure := [], defaults := Value.none, kwdefaults := Value.none, pyModule := Value.str (Str.ofString "law_no0162_01") 662, code := Value.ref 428 } }),
(430, { cls := Value.type "tuple", data := Data.seq #[] }),
(433, { cls := Value.type "code", data := Data.fields #[Value.str (Str.ofString "law") 784, Value.str (Str.ofString "law") 785, Value.str (Str.ofString "/claim/cut.py") 786, Value.int 366 0, Value.int 1 0, Value.int 0 0, Value.int 0 0, Value.int 3 0, Value.ref 430, Value.bool true, Value.int 181 0, Value.ref 431, Value.none, Value.none, Value.none, Value.ref 432, Value.int 787 0, Value.int 366 0, Value.str (Str.ofString "/claim/cut.py") 788] }),
(434, { cls := Value.type "function", data := Data.func { name := Str.ofString "law", qualname := Str.ofString "law", params := aP 46 1000, body := FuncBody.stmts (aB 46 1000), scope := { kind := ScopeKind.function, names := [(Str.ofString "script", NameKind.local), (Str.ofString "pool", NameKind.local), (Str.ofString "book", NameKind.cell), (Str.ofString "cells", NameKind.local), (Str.ofString "standard", NameKind.local), (Str.ofString "operators", NameKind.local), (Str.ofString "model", NameKind.cell), (Str.ofString "step", NameKind.local), (Str.ofString "first", NameKind.local), (Str.ofString "second", NameKind.local), (Str.ofString "third", NameKind.local), (Str.ofString "due", NameKind.local), (Str.ofString "told", NameKind.local), (Str.ofString "error", NameKind.local), (Str.ofString "wanted", NameKind.local), (Str.ofString "name", NameKind.cell), (Str.ofString "number", NameKind.local), (Str.ofString "entries", NameKind.local), (Str.ofString "plain", NameKind.local), (Str.ofString "rows", NameKind.local), (Str.ofString "_law_pool", NameKind.globalImplicit), (Str.ofString "Symbols", NameKind.globalImplicit), (Str.ofString "_law_pick", NameKind.globalImplicit), (Str.ofString "Operators", NameKind.globalImplicit), (Str.ofString "_law_standard", NameKind.globalImplicit), (Str.ofString "range", NameKind.globalImplicit), (Str.ofString "_law_priority", NameKind.globalImplicit), (Str.ofString "_law_type", NameKind.globalImplicit), (Str.ofString "_law_names", NameKind.globalImplicit), (Str.ofString "_law_due", NameKind.globalImplicit), (Str.ofString "PrologError", NameKind.globalImplicit), (Str.ofString "F_ERROR", NameKind.globalImplicit), (Str.ofString "A_SYSTEM", NameKind.globalImplicit), (Str.ofString "sorted", NameKind.globalImplicit)], isGenerator := false, isCoroutine := false, more := [(Str.ofString "fast", Const.str (Str.ofString "script")), (Str.ofString "fast", Const.str (Str.ofString "pool")), (Str.ofString "fast", Const.str (Str.ofString "book")), (Str.ofString "fast", Const.str (Str.ofString "cell")), (Str.ofString "fast", Const.str (Str.ofString "cells")), (Str.ofString "fast", Const.str (Str.ofString "standard")), (Str.ofString "fast", Const.str (Str.ofString "operators")), (Str.ofString "fast", Const.str (Str.ofString "model")), (Str.ofString "fast", Const.str (Str.ofString "step")), (Str.ofString "fast", Const.str (Str.ofString "first")), (Str.ofString "fast", Const.str (Str.ofString "second")), (Str.ofString "fast", Const.str (Str.ofString "third")), (Str.ofString "fast", Const.str (Str.ofString "due")), (Str.ofString "fast", Const.str (Str.ofString "told")), (Str.ofString "fast", Const.str (Str.ofString "error")), (Str.ofString "fast", Const.str (Str.ofString "wanted")), (Str.ofString "fast", Const.str (Str.ofString "name")), (Str.ofString "fast", Const.str (Str.ofString "number")), (Str.ofString "fast", Const.str (Str.ofString "entries")), (Str.ofString "fast", Const.str (Str.ofString "place")), (Str.ofString "fast", Const.str (Str.ofString "plain")), (Str.ofString "fast", Const.str (Str.ofString "entry")), (Str.ofString "fast", Const.str (Str.ofString "rows"))] }, globals := 3, closure := [], defaults := Value.none, kwdefaults := Value.none, pyModule := Value.str (Str.ofString "law_no0162_01") 662, code := Value.ref 433 } })]
end Mine
end
section
open PySem PySem.W
set_option maxRecDepth 100000
namespace Mine
noncomputable abbrev KK (w : World) : Frag := KF w.params
theorem len0 {l : List Value} (h : l.length = 0) : l = [] := List.eq_nil_of_length_eq_zero h
theorem lenS {l : List Value} {n : Nat} (h : l.length = n + 1) : ∃ a m, l = a :: m ∧ m.length = n := by
  cases l with
  | nil => cases h
  | cons a m => exact ⟨a, m, rfl, Nat.succ.inj h⟩
theorem len1 {l : List Value} (h : l.length = 1) : ∃ a, l = [a] := by
  obtain ⟨a, m, rfl, h2⟩ := lenS h
  exact ⟨a, by rw [len0 h2]⟩
theorem len2 {l : List Value} (h : l.length = 2) : ∃ a b, l = [a, b] := by
  obtain ⟨a, m, rfl, h2⟩ := lenS h
  obtain ⟨b, rfl⟩ := len1 h2
  exact ⟨a, b, rfl⟩
theorem len3 {l : List Value} (h : l.length = 3) : ∃ a b c, l = [a, b, c] := by
  obtain ⟨a, m, rfl, h2⟩ := lenS h
  obtain ⟨b, c, rfl⟩ := len2 h2
  exact ⟨a, b, c, rfl⟩
theorem len4 {l : List Value} (h : l.length = 4) : ∃ a b c d, l = [a, b, c, d] := by
  obtain ⟨a, m, rfl, h2⟩ := lenS h
  obtain ⟨b, c, d, rfl⟩ := len3 h2
  exact ⟨a, b, c, d, rfl⟩
theorem len5 {l : List Value} (h : l.length = 5) : ∃ a b c d e, l = [a, b, c, d, e] := by
  obtain ⟨a, m, rfl, h2⟩ := lenS h
  obtain ⟨b, c, d, e, rfl⟩ := len4 h2
  exact ⟨a, b, c, d, e, rfl⟩
/-- the facts of the heap at the law's call that every step needs -/
structure Bs (w : World) (h : Heap) : Prop where
  K : (KK w).In h
  g : ∃ mg, h.Ns mainGlobals mg
  b : ∃ mb, h.Ns builtinsNs mb ∧ ∀ x : Str, x ≠ "__name__" → mb x = bootBuiltins x
  nolimit : h.NoLimit
theorem Bs.keeps {w : World} {h h' : Heap} (B : Bs w h) (k : ∀ a o, h.get? a = some o → h'.get? a = some o) : Bs w h' :=
  ⟨B.K.keeps k, let ⟨m, e⟩ := B.g; ⟨m, e.keeps k⟩, let ⟨m, e, z⟩ := B.b; ⟨m, e.keeps k, z⟩, B.nolimit.keeps k⟩
/-- an abstract value -/
inductive AV where
  | d (x : PyData)
  | v (x : Value)
  | tup (l : List AV)
  deriving Inhabited
/-- a tuple object: it never changes -/
noncomputable def Tp (o : Obj) : Prop := o.cls = .type "tuple" ∧ ∃ xs n, o.data = .seq xs n
noncomputable def Le (h h' : Heap) : Prop := ∀ a o, h.get? a = some o → Tp o → h'.get? a = some o
theorem Le.refl (h : Heap) : Le h h := fun _ _ e _ => e
theorem Le.trans {h₁ h₂ h₃ : Heap} (x : Le h₁ h₂) (y : Le h₂ h₃) : Le h₁ h₃ := fun a o e t => y a o (x a o e t) t
theorem Le.of_keeps {h h' : Heap} (k : ∀ a o, h.get? a = some o → h'.get? a = some o) : Le h h' := fun a o e _ => k a o e
mutual
inductive Rv (h : Heap) : Value → AV → Prop
  | d {v : Value} {x : PyData} : Reads h v x [] → Rv h v (.d x)
  | v (v : Value) : Rv h v (.v v)
  | tup {a : Addr} {o : Obj} {vs : Array Value} {n : Nat} {l : List AV} : h.get? a = some o → o.cls = .type "tuple" → o.data = .seq vs n → RvL h vs.toList l → Rv h (.ref a) (.tup l)
inductive RvL (h : Heap) : List Value → List AV → Prop
  | nil : RvL h [] []
  | cons {v : Value} {a : AV} {vs : List Value} {l : List AV} : Rv h v a → RvL h vs l → RvL h (v :: vs) (a :: l)
end
theorem nil_l {α : Type} {a b : List α} (e : a ++ b = []) : a = [] := (List.append_eq_nil_iff.mp e).1
theorem nil_r {α : Type} {a b : List α} (e : a ++ b = []) : b = [] := (List.append_eq_nil_iff.mp e).2
theorem reads_le {h h' : Heap} (k : Le h h') {v : Value} {x : PyData} {as : List Addr} (r : Reads h v x as) : as = [] → Reads h' v x [] :=
  Reads.rec (motive_1 := fun v x as _ => as = [] → Reads h' v x []) (motive_2 := fun vs xs as _ => as = [] → ReadsAll h' vs xs [])
    (fun _ => .none) (fun b _ => .bool b) (fun i t _ => .int i t) (fun i t _ => .str i t) (fun _ _ _ _ _ e => absurd e (List.cons_ne_nil _ _)) (fun ho hc hd _ ih e => .tuple (k _ _ ho ⟨hc, _, _, hd⟩) hc hd (ih e))
    (fun _ _ _ _ _ _ _ e => absurd e (List.cons_ne_nil _ _)) (fun _ => .nil) (fun _ _ i1 i2 e => .cons (as := []) (bs := []) (i1 (nil_l e)) (i2 (nil_r e))) r
theorem Rv.le {h h' : Heap} (k : Le h h') {v : Value} {a : AV} (r : Rv h v a) : Rv h' v a :=
  Rv.rec (motive_1 := fun v a _ => Rv h' v a) (motive_2 := fun vs l _ => RvL h' vs l) (fun r => .d (reads_le k r rfl)) (fun v => .v v) (fun ho hc hd _ ih => .tup (k _ _ ho ⟨hc, _, _, hd⟩) hc hd ih) .nil (fun _ _ i1 i2 => .cons i1 i2) r
theorem RvL.ind {h : Heap} {P : List Value → List AV → Prop} (n : P [] []) (c : ∀ {v : Value} {a : AV} {vs : List Value} {l : List AV}, Rv h v a → RvL h vs l → P vs l → P (v :: vs) (a :: l)) {vs : List Value} {l : List AV} (r : RvL h vs l) : P vs l :=
  RvL.rec (motive_1 := fun _ _ _ => True) (motive_2 := fun vs l _ => P vs l) (fun _ => trivial) (fun _ => trivial) (fun _ _ _ _ _ => trivial) n (fun a b _ ih => c a b ih) r
theorem RAll.ind {h : Heap} {P : List Value → List PyData → Prop} (n : P [] []) (c : ∀ {v : Value} {a : PyData} {vs : List Value} {l : List PyData}, Reads h v a [] → P vs l → P (v :: vs) (a :: l)) {vs : List Value} {l : List PyData} {as : List Addr} (r : ReadsAll h vs l as) : as = [] → P vs l :=
  ReadsAll.rec (motive_1 := fun v x as _ => as = [] → Reads h v x []) (motive_2 := fun vs l as _ => as = [] → P vs l) (fun _ => .none) (fun b _ => .bool b) (fun i t _ => .int i t) (fun i t _ => .str i t)
    (fun _ _ _ _ _ e => absurd e (List.cons_ne_nil _ _)) (fun ho hc hd r _ e => .tuple ho hc hd (e ▸ r)) (fun _ _ _ _ _ _ _ e => absurd e (List.cons_ne_nil _ _)) (fun _ => n) (fun _ _ i1 i2 e => c (i1 (nil_l e)) (i2 (nil_r e))) r
theorem RvL.le {h h' : Heap} (k : Le h h') {vs : List Value} {l : List AV} (r : RvL h vs l) : RvL h' vs l := r.ind .nil fun a _ ih => .cons (a.le k) ih
theorem RvL.length {h : Heap} {vs : List Value} {l : List AV} (r : RvL h vs l) : vs.length = l.length := r.ind (P := fun vs l => vs.length = l.length) rfl fun _ _ ih => congrArg Nat.succ ih
theorem RvL.append {h : Heap} {vs ws : List Value} {l k : List AV} (r : RvL h vs l) (y : RvL h ws k) : RvL h (vs ++ ws) (l ++ k) := r.ind (P := fun vs l => RvL h (vs ++ ws) (l ++ k)) y fun a _ ih => .cons a ih
theorem RvL.get {h : Heap} {vs : List Value} {l : List AV} (r : RvL h vs l) {i : Nat} {a : AV} : l[i]? = some a → ∃ v, vs[i]? = some v ∧ Rv h v a :=
  r.ind (P := fun vs l => ∀ i, l[i]? = some a → ∃ v, vs[i]? = some v ∧ Rv h v a) (fun i e => by simp at e) (fun x _ ih i => by
    cases i with
    | zero => intro e; exact ⟨_, rfl, Option.some.inj e ▸ x⟩
    | succ i => exact ih i) i
theorem RvL.get_none {h : Heap} {vs : List Value} {l : List AV} (r : RvL h vs l) {i : Nat} (e : l[i]? = none) : vs[i]? = none := by
  rw [List.getElem?_eq_none_iff] at e ⊢; rw [r.length]; exact e
theorem RvL.set {h : Heap} {vs : List Value} {l : List AV} (r : RvL h vs l) (i : Nat) {v : Value} {a : AV} (x : Rv h v a) : RvL h (vs.set i v) (l.set i a) :=
  r.ind (P := fun vs l => ∀ i, RvL h (vs.set i v) (l.set i a)) (fun _ => .nil) (fun y ys ih i => by
    cases i with
    | zero => exact .cons x ys
    | succ i => exact .cons y (ih i)) i
/-- what a value is that reads so -/
inductive IsTupD (h : Heap) (v : Value) (xs : List PyData) : Prop
  | mk (a : Addr) (o : Obj) (vs : Array Value) (n : Nat) (e : v = .ref a) (ho : h.get? a = some o) (hc : o.cls = .type "tuple") (hd : o.data = .seq vs n) (hr : ReadsAll h vs.toList xs []) : IsTupD h v xs
inductive IsTupA (h : Heap) (v : Value) (l : List AV) : Prop
  | mk (a : Addr) (o : Obj) (vs : Array Value) (n : Nat) (e : v = .ref a) (ho : h.get? a = some o) (hc : o.cls = .type "tuple") (hd : o.data = .seq vs n) (hr : RvL h vs.toList l) : IsTupA h v l
noncomputable def RdI (h : Heap) (v : Value) : PyData → Prop
  | .none => v = .none
  | .bool b => v = .bool b
  | .int i => ∃ t, v = .int i t
  | .str x => ∃ t, v = .str x t
  | .tuple xs => IsTupD h v xs
  | _ => True
noncomputable def RvI (h : Heap) (v : Value) : AV → Prop
  | .d x => Reads h v x []
  | .v x => v = x
  | .tup l => IsTupA h v l
theorem Reads.inv_ {h : Heap} {v : Value} {x : PyData} {as : List Addr} (r : Reads h v x as) : as = [] → RdI h v x := by
  cases r with
  | none => intro _; rfl
  | bool b => intro _; rfl
  | int i t => intro _; exact ⟨t, rfl⟩
  | str i t => intro _; exact ⟨t, rfl⟩
  | tuple ho hc hd hr => intro e; exact ⟨_, _, _, _, rfl, ho, hc, hd, e ▸ hr⟩
  | list _ _ _ _ => intro _; trivial
  | dict _ _ _ _ _ => intro _; trivial
theorem Rv.inv {h : Heap} {v : Value} {a : AV} (r : Rv h v a) : RvI h v a := by
  cases r with
  | d r => exact r
  | v v => rfl
  | tup ho hc hd hr => exact ⟨_, _, _, _, rfl, ho, hc, hd, hr⟩
theorem Rv.data {h : Heap} {v : Value} {x : PyData} (r : Rv h v (.d x)) : Reads h v x [] := r.inv
theorem Rv.tupD {h : Heap} {v : Value} {xs : List PyData} (r : Rv h v (.d (.tuple xs))) : IsTupD h v xs := Reads.inv_ r.data rfl
theorem Rv.tupA {h : Heap} {v : Value} {l : List AV} (r : Rv h v (.tup l)) : IsTupA h v l := r.inv
theorem RvL.hd {h : Heap} {v : Value} {vs : List Value} {a : AV} {l : List AV} (r : RvL h (v :: vs) (a :: l)) : Rv h v a := by cases r with | cons a _ => exact a
theorem RvL.tl {h : Heap} {v : Value} {vs : List Value} {a : AV} {l : List AV} (r : RvL h (v :: vs) (a :: l)) : RvL h vs l := by cases r with | cons _ b => exact b
theorem RvL.none {h : Heap} {vs : List Value} (r : RvL h vs []) : vs = [] := List.eq_nil_of_length_eq_zero r.length
theorem RvL.some {h : Heap} {vs : List Value} {a : AV} {l : List AV} (r : RvL h vs (a :: l)) : ∃ v us, vs = v :: us := List.exists_cons_of_length_eq_add_one r.length
/-- all pure data -/
theorem RvL.reads {h : Heap} {vs : List Value} {xs : List PyData} (r : RvL h vs (xs.map .d)) : ReadsAll h vs xs [] := by
  induction xs generalizing vs with
  | nil => rw [r.none]; exact .nil
  | cons x xs ih =>
    obtain ⟨v, us, e⟩ := r.some
    subst e
    exact .cons (as := []) (bs := []) r.hd.data (ih r.tl)
theorem RvL.of_reads {h : Heap} {vs : List Value} {xs : List PyData} {as : List Addr} (r : ReadsAll h vs xs as) (e : as = []) : RvL h vs (xs.map .d) := RAll.ind (P := fun vs xs => RvL h vs (xs.map .d)) .nil (fun a ih => .cons (.d a) ih) r e
/-- the store's objects -/
inductive MO where
  | raw (o : Obj)
  | ns (m : List (Str × Option AV))
  | list (l : List AV)
  | lw (l : List AV)
  | dI (kvs : List (Int × AV))
  | dS (kvs : List (Str × AV))
  | dTS (kvs : List (List Str × AV))
  | dTI (kvs : List (List Int × AV))
  | cell (v : Option AV)
noncomputable def NotTp (h : Heap) (a : Addr) : Prop := ∃ o, h.get? a = some o ∧ ¬ Tp o
theorem NotTp.lt {h : Heap} {a : Addr} (x : NotTp h a) : a < h.objs.size := let ⟨_, e, _⟩ := x; Heap.lt_size e
theorem NotTp.mono {h h' : Heap} {a : Addr} (x : NotTp h a) (k : ∀ o, h.get? a = some o → h'.get? a = some o) : NotTp h' a := let ⟨o, e, t⟩ := x; ⟨o, k o e, t⟩
noncomputable abbrev Lc := List (Str × Option AV)
noncomputable def RNs (h : Heap) (a : Addr) (m : Lc) : Prop := ∃ mv, h.Ns a mv ∧ (m.map (·.1)).Nodup ∧ ∀ x av, (x, some av) ∈ m → ∃ v, mv x = some v ∧ Rv h v av
theorem RNs.notTp {h : Heap} {a : Addr} {m : Lc} (x : RNs h a m) : NotTp h a := by
  obtain ⟨mv, ⟨o, es, ep, ho, hd, _⟩, _⟩ := x
  exact ⟨o, ho, fun t => by obtain ⟨_, xs, n, e⟩ := t; rw [hd] at e; cases e⟩
theorem RNs.mono {h h' : Heap} {a : Addr} {m : Lc} (x : RNs h a m) (k : Le h h') (e : ∀ o, h.get? a = some o → h'.get? a = some o) : RNs h' a m := by
  obtain ⟨mv, ⟨o, es, ep, ho, r⟩, nd, z⟩ := x
  exact ⟨mv, ⟨o, es, ep, e _ ho, r⟩, nd, fun y av q => let ⟨v, q1, q2⟩ := z y av q; ⟨v, q1, q2.le k⟩⟩
/-- a name is stored: the list at its place -/
theorem nodup_fst {m : Lc} (nd : (m.map (·.1)).Nodup) : ∀ {i j : Nat} {p q : Str × Option AV}, m[i]? = some p → m[j]? = some q → p.1 = q.1 → i = j := by
  intro i j p q hi hj e
  have h1 : (m.map (·.1))[i]? = some p.1 := by simp [hi]
  have h2 : (m.map (·.1))[j]? = some p.1 := by simp [hj, e]
  obtain ⟨l1, g1⟩ := List.getElem?_eq_some_iff.mp h1
  obtain ⟨l2, g2⟩ := List.getElem?_eq_some_iff.mp h2
  exact (List.getElem_inj nd).mp (g1.trans g2.symm)
theorem RNs.put {h h' : Heap} {a : Addr} {m : Lc} {i : Nat} {x : Str} {o : Option AV} {av : AV} {v : Value} (r : RNs h a m) (hi : m[i]? = some (x, o)) (k : Le h h') (mv' : Str → Option Value)
    (hn : h'.Ns a mv') (hv : Rv h' v av) (e : ∀ mv, h.Ns a mv → ∀ y, mv' y = if y = x then some v else mv y) : RNs h' a (m.set i (x, some av)) := by
  obtain ⟨mv, hmv, nd, z⟩ := r
  have e := e mv hmv
  refine ⟨mv', hn, ?_, fun y b hb => ?_⟩
  · have : (m.set i (x, some av)).map (·.1) = m.map (·.1) := by
      rw [List.map_set]
      apply List.ext_getElem?
      intro j
      rw [List.getElem?_set]
      split
      · rename_i q; subst q
        rw [List.getElem?_map, hi]
        have := (List.getElem?_eq_some_iff.mp hi).1
        simp [this]
      · rfl
    rw [this]; exact nd
  · obtain ⟨j, hj⟩ := List.mem_iff_getElem?.mp hb
    rw [List.getElem?_set] at hj
    split at hj
    · split at hj
      · cases hj; exact ⟨v, by rw [e, if_pos rfl], hv⟩
      · cases hj
    · rename_i hne
      obtain ⟨u, h1, h2⟩ := z y b (List.mem_of_getElem? hj)
      have hy : y ≠ x := fun q => hne (nodup_fst nd hi hj q.symm)
      exact ⟨u, by rw [e, if_neg hy]; exact h1, h2.le k⟩
section
variable (prog : Program) (w : World)
noncomputable def RO (h : Heap) (a : Addr) : MO → Prop
  | .raw o => h.get? a = some o ∧ ¬ Tp o
  | .ns m => RNs h a m
  | .list l => ∃ vs n, h.get? a = some (W.listOf vs n) ∧ RvL h vs.toList l
  | .lw l => ∃ vs, h.IsList a vs ∧ RvL h vs.toList l
  | .dI kvs => ∃ xs, h.DictOf (PySem.intKind prog w) a xs ∧ xs.map (·.1) = kvs.map (·.1) ∧ RvL h (xs.map (·.2)) (kvs.map (·.2))
  | .dS kvs => ∃ xs, h.DictOf (PySem.strKind prog w) a xs ∧ xs.map (·.1) = kvs.map (·.1) ∧ RvL h (xs.map (·.2)) (kvs.map (·.2))
  | .dTS kvs => ∃ xs, h.DictOfH (tupleKind (PySem.strKind prog w)) a xs ∧ xs.map (·.1) = kvs.map (·.1) ∧ RvL h (xs.map (·.2.2)) (kvs.map (·.2))
  | .dTI kvs => ∃ xs, h.DictOfH (tupleKind (PySem.intKind prog w)) a xs ∧ xs.map (·.1) = kvs.map (·.1) ∧ RvL h (xs.map (·.2.2)) (kvs.map (·.2))
  | .cell ov => ∃ o v, h.get? a = some o ∧ o.data = .cell v ∧ (match ov with | none => True | some av => ∃ u, v = some u ∧ Rv h u av)
end
theorem isTupleKey_le {prog : Program} {w : World} {K : Type} [DecidableEq K] {knd : PySem.KeyKind prog w K} {h h' : Heap} (k : Le h h') {ks : List K} {a : Addr} (x : IsTupleKey knd h ks a) : IsTupleKey knd h' ks a := by
  obtain ⟨o, items, n, ho, hc, hd, r⟩ := x
  exact ⟨o, items, n, k _ _ ho ⟨hc, _, _, hd⟩, hc, hd, r⟩
theorem dictOfH_mono {prog : Program} {w : World} {K : Type} [DecidableEq K] {knd : PySem.KeyKind prog w K} {h h' : Heap} {a : Addr} {xs : List (List K × Addr × Value)} (k : Le h h') (e : ∀ o, h.get? a = some o → h'.get? a = some o)
    (x : h.DictOfH (tupleKind knd) a xs) : h'.DictOfH (tupleKind knd) a xs := by
  obtain ⟨o, es, ep, ho, h1, h2, h3, h4, h5⟩ := x
  exact ⟨o, es, ep, e _ ho, h1, h2, h3, fun y hy => isTupleKey_le k (h4 y hy), h5⟩
theorem dict_notTp {h : Heap} {a : Addr} {o : Obj} {es : Array DictEntry} {ep : Nat} (ho : h.get? a = some o) (hd : o.data = .dict es ep) : NotTp h a :=
  ⟨o, ho, fun t => by obtain ⟨_, xs, n, e⟩ := t; rw [hd] at e; cases e⟩
theorem nTp {h : Heap} {a : Addr} {o : Obj} {T : String} (ho : h.get? a = some o) (hc : o.cls = .type T) (e : T ≠ "tuple") : NotTp h a := ⟨o, ho, fun t => e (Value.type.inj (hc.symm.trans t.1))⟩
theorem RO.notTp {prog : Program} {w : World} {h : Heap} {a : Addr} {o : MO} (x : RO prog w h a o) : NotTp h a := by
  cases o with
  | raw o => exact ⟨o, x.1, x.2⟩
  | ns m => exact RNs.notTp x
  | list l => obtain ⟨vs, n, ho, _⟩ := x; exact nTp ho rfl (by decide)
  | lw l => obtain ⟨vs, ⟨o, ho, hc, _⟩, _⟩ := x; exact nTp ho hc (by decide)
  | dI _ => obtain ⟨_, ⟨o, es, ep, ho, _, hd, _⟩, _⟩ := x; exact dict_notTp ho hd
  | dS _ => obtain ⟨_, ⟨o, es, ep, ho, _, hd, _⟩, _⟩ := x; exact dict_notTp ho hd
  | dTS _ => obtain ⟨_, ⟨o, es, ep, ho, _, hd, _⟩, _⟩ := x; exact dict_notTp ho hd
  | dTI _ => obtain ⟨_, ⟨o, es, ep, ho, _, hd, _⟩, _⟩ := x; exact dict_notTp ho hd
  | cell _ => obtain ⟨o, v, ho, hd, _⟩ := x; exact ⟨o, ho, fun t => by obtain ⟨_, xs, n, e⟩ := t; rw [hd] at e; cases e⟩
theorem RO.mono {prog : Program} {w : World} {h h' : Heap} {a : Addr} (k : Le h h') (e : ∀ o, h.get? a = some o → h'.get? a = some o) {o : MO} (x : RO prog w h a o) : RO prog w h' a o := by
  cases o with
  | raw _ => exact ⟨e _ x.1, x.2⟩
  | ns _ => exact RNs.mono x k e
  | list _ => obtain ⟨vs, n, ho, r⟩ := x; exact ⟨vs, n, e _ ho, r.le k⟩
  | lw _ => obtain ⟨vs, ⟨o, ho, z⟩, r⟩ := x; exact ⟨vs, ⟨o, e _ ho, z⟩, r.le k⟩
  | dI _ => obtain ⟨xs, ⟨o, es, ep, ho, r⟩, q, z⟩ := x; exact ⟨xs, ⟨o, es, ep, e _ ho, r⟩, q, z.le k⟩
  | dS _ => obtain ⟨xs, ⟨o, es, ep, ho, r⟩, q, z⟩ := x; exact ⟨xs, ⟨o, es, ep, e _ ho, r⟩, q, z.le k⟩
  | dTS _ => obtain ⟨xs, r, q, z⟩ := x; exact ⟨xs, dictOfH_mono k e r, q, z.le k⟩
  | dTI _ => obtain ⟨xs, r, q, z⟩ := x; exact ⟨xs, dictOfH_mono k e r, q, z.le k⟩
  | cell ov =>
    obtain ⟨o, v, ho, hd, z⟩ := x
    refine ⟨o, v, e _ ho, hd, ?_⟩
    cases ov with
    | none => trivial
    | some _ => obtain ⟨u, hu, hr⟩ := z; exact ⟨u, hu, hr.le k⟩
set_option genInjectivity false in
set_option genSizeOf false in
/-- a region: addresses, and what is said of the heap there -/
structure Reg where
  foot : List Addr
  P : Heap → Prop
  loc : ∀ {h h' : Heap}, Le h h' → (∀ a ∈ foot, ∀ o, h.get? a = some o → h'.get? a = some o) → P h → P h'
  live : ∀ {h : Heap}, P h → ∀ a ∈ foot, NotTp h a
noncomputable def one (prog : Program) (w : World) (a : Addr) (o : MO) : Reg where
  foot := [a]
  P := fun h => RO prog w h a o
  loc := fun k e x => RO.mono k (e a (by simp)) x
  live := fun x b hb => by rw [List.mem_singleton.mp hb]; exact RO.notTp x
structure DS where
  m : Lc
  rs : List Reg
noncomputable def feet (rs : List Reg) : List Addr := rs.flatMap Reg.foot
noncomputable def Nxt (s s' : Shared) : Prop := Le s.heap s'.heap ∧ ∃ h' tk, s' = { s with heap := h', toks := tk }
theorem Nxt.refl (s : Shared) : Nxt s s := ⟨.refl _, s.heap, s.toks, rfl⟩
theorem Nxt.trans {s₁ s₂ s₃ : Shared} (x : Nxt s₁ s₂) (y : Nxt s₂ s₃) : Nxt s₁ s₃ := by
  obtain ⟨a, h, t, rfl⟩ := x
  obtain ⟨b, h', t', rfl⟩ := y
  exact ⟨a.trans b, h', t', rfl⟩
theorem Nxt.toks (s : Shared) (t : Nat) : Nxt s { s with toks := t } := ⟨.refl _, s.heap, t, rfl⟩
set_option genInjectivity false in
set_option genSizeOf false in
structure Cx (w : World) where
  h₁ : Heap
  bs : Bs w h₁
  s₀ : Shared
  own : List Addr
  L : Addr
  big : h₁.objs.size ≤ s₀.heap.objs.size
  hL : s₀.heap.objs.size ≤ L
  A : Around
  lv : Nat
  handled : A.handled = none
  depth : A.depth + lv ≤ 900
  units : A.units + 20 * lv ≤ 9000
structure Den {w : World} (C : Cx w) (D : DS) (s : Shared) : Prop where
  nxt : Nxt C.s₀ s
  base : ∀ a o, C.h₁.get? a = some o → s.heap.get? a = some o
  keep : ∀ a o, C.s₀.heap.get? a = some o → a ∉ C.own → s.heap.get? a = some o
  size : C.s₀.heap.objs.size ≤ s.heap.objs.size
  ns : RNs s.heap C.L D.m
  regs : ∀ r ∈ D.rs, r.P s.heap
  nodup : (C.L :: feet D.rs).Nodup
  fresh : ∀ a ∈ C.L :: feet D.rs, C.h₁.objs.size ≤ a ∧ (a ∈ C.own ∨ C.s₀.heap.objs.size ≤ a)
theorem mem_feet {rs : List Reg} {a : Addr} : a ∈ feet rs ↔ ∃ r ∈ rs, a ∈ r.foot := List.mem_flatMap
theorem Den.notTp {w : World} {C : Cx w} {D : DS} {s : Shared} (d : Den C D s) {a : Addr} (h : a ∈ C.L :: feet D.rs) : NotTp s.heap a := by
  rcases List.mem_cons.mp h with rfl | h
  · exact d.ns.notTp
  · obtain ⟨r, hr, ha⟩ := mem_feet.mp h
    exact r.live (d.regs r hr) a ha
/-- a step that changes the heap at F alone -/
theorem Den.step {w : World} {C : Cx w} {D D' : DS} {s : Shared} (d : Den C D s) {h' : Heap} {tk : Nat} (F : List Addr) (hF : ∀ a ∈ F, a ∈ C.L :: feet D.rs)
    (hk : ∀ a o, a ∉ F → s.heap.get? a = some o → h'.get? a = some o)
    (ns : RNs h' C.L D'.m) (regs : ∀ r ∈ D'.rs, r.P h') (nodup : (C.L :: feet D'.rs).Nodup)
    (fresh : ∀ a ∈ feet D'.rs, a ∈ C.L :: feet D.rs ∨ s.heap.objs.size ≤ a) : Nxt s { s with heap := h', toks := tk } ∧ Den C D' { s with heap := h', toks := tk } := by
  have le : Le s.heap h' := fun a o e t => hk a o (fun q => by
    obtain ⟨o', e', t'⟩ := d.notTp (hF a q)
    rw [e] at e'; cases e'; exact t' t) e
  have n : Nxt s { s with heap := h', toks := tk } := ⟨le, h', tk, rfl⟩
  refine ⟨n, d.nxt.trans n, fun a o e => hk a o (fun q => ?_) (d.base a o e), fun a o e q => hk a o (fun z => ?_) (d.keep a o e q), Nat.le_trans C.hL (Nat.le_of_lt ns.notTp.lt), ns, regs, nodup, fun a ha => ?_⟩
  · exact absurd (Heap.lt_size e) (Nat.not_lt.mpr (d.fresh a (hF a q)).1)
  · rcases (d.fresh a (hF a z)).2 with y | y
    · exact q y
    · exact absurd (Heap.lt_size e) (Nat.not_lt.mpr y)
  · rcases List.mem_cons.mp ha with rfl | ha
    · exact d.fresh _ (.head _)
    · rcases fresh a ha with y | y
      · exact d.fresh a y
      · exact ⟨Nat.le_trans C.big (Nat.le_trans d.size y), .inr (Nat.le_trans d.size y)⟩
/-- tokens alone -/
theorem Den.toks {w : World} {C : Cx w} {D : DS} {s : Shared} (d : Den C D s) (t : Nat) : Den C D { s with toks := t } :=
  ⟨d.nxt.trans (.toks s t), d.base, d.keep, d.size, d.ns, d.regs, d.nodup, d.fresh⟩
theorem feet_cons (r : Reg) (rs : List Reg) : feet (r :: rs) = r.foot ++ feet rs := by simp [feet]
theorem feet_append (a b : List Reg) : feet (a ++ b) = feet a ++ feet b := by simp [feet]
theorem feet_set {rs : List Reg} {i : Nat} {r r' : Reg} (hi : rs[i]? = some r) (hf : r'.foot = r.foot) : feet (rs.set i r') = feet rs := by
  induction rs generalizing i with
  | nil => rfl
  | cons x l ih =>
    cases i with
    | zero => simp at hi; subst hi; simp [feet_cons, hf]
    | succ i => simp at hi; simp [feet_cons, ih hi]
theorem mem_of_get {α : Type} {l : List α} {i : Nat} {x : α} (h : l[i]? = some x) : x ∈ l := List.mem_of_getElem? h
/-- other regions do not meet this one -/
theorem feet_apart {rs : List Reg} {i : Nat} {r : Reg} (hi : rs[i]? = some r) (nd : (feet rs).Nodup) : ∀ (j : Nat) (x : Reg), rs[j]? = some x → j ≠ i → ∀ a ∈ r.foot, a ∉ x.foot := by
  induction rs generalizing i with
  | nil => simp at hi
  | cons y l ih =>
    intro j x hj hne a ha hx
    rw [feet_cons, List.nodup_append] at nd
    cases i with
    | zero =>
      simp at hi; subst hi
      cases j with
      | zero => exact hne rfl
      | succ j => exact nd.2.2 a ha a (mem_feet.mpr ⟨x, mem_of_get (by simpa using hj), hx⟩) rfl
    | succ i =>
      cases j with
      | zero => simp at hj; subst hj; exact nd.2.2 a hx a (mem_feet.mpr ⟨r, mem_of_get (by simpa using hi), ha⟩) rfl
      | succ j => exact ih (by simpa using hi) nd.2.1 j x (by simpa using hj) (fun e => hne (by rw [e])) a ha hx
/-- one region's objects change, perhaps new ones are laid: the region is another now, on the same feet -/
theorem Den.upd {w : World} {C : Cx w} {D : DS} {s : Shared} (d : Den C D s) {i : Nat} {r r' : Reg} (hi : D.rs[i]? = some r) (hf : r'.foot = r.foot) {h' : Heap} {tk : Nat}
    (hk : ∀ a o, a ∉ r.foot → s.heap.get? a = some o → h'.get? a = some o) (hz : s.heap.objs.size ≤ h'.objs.size) (hr : r'.P h') :
    Nxt s { s with heap := h', toks := tk } ∧ Den C ⟨D.m, D.rs.set i r'⟩ { s with heap := h', toks := tk } := by
  have inF : ∀ a ∈ r.foot, a ∈ C.L :: feet D.rs := fun a ha => .tail _ (mem_feet.mpr ⟨r, mem_of_get hi, ha⟩)
  have le : Le s.heap h' := fun a o e t => hk a o (fun q => by
    obtain ⟨o', e', t'⟩ := d.notTp (inF a q)
    rw [e] at e'; cases e'; exact t' t) e
  have nd := List.nodup_cons.mp d.nodup
  have fs := feet_set hi hf
  refine d.step r.foot inF hk (d.ns.mono le fun o e => hk _ _ (fun q => nd.1 (mem_feet.mpr ⟨r, mem_of_get hi, q⟩)) e) (fun x hx => ?_) (by rw [fs]; exact d.nodup) fun a ha => .inl (.tail _ (fs ▸ ha))
  obtain ⟨j, hj⟩ := List.mem_iff_getElem?.mp hx
  rw [List.getElem?_set] at hj
  split at hj
  · split at hj
    · cases hj; exact hr
    · cases hj
  · rename_i hne
    exact x.loc le (fun a ha o e => hk a o (fun q => feet_apart hi nd.2 j x hj (fun e => hne e.symm) a q ha) e) (d.regs x (mem_of_get hj))
/-- nothing known changes; new objects may be laid -/
theorem Den.keeps {w : World} {C : Cx w} {D : DS} {s : Shared} (d : Den C D s) {h' : Heap} {tk : Nat} (hk : ∀ a o, s.heap.get? a = some o → h'.get? a = some o) (hz : s.heap.objs.size ≤ h'.objs.size) :
    Nxt s { s with heap := h', toks := tk } ∧ Den C D { s with heap := h', toks := tk } :=
  d.step [] (fun _ h => (nomatch h)) (fun a o _ e => hk a o e) (d.ns.mono (.of_keeps hk) fun o e => hk _ _ e) (fun r hr => r.loc (.of_keeps hk) (fun a _ o e => hk a o e) (d.regs r hr)) d.nodup fun a ha => .inl (.tail _ ha)
/-- a new region on new feet -/
theorem Den.new {w : World} {C : Cx w} {D : DS} {s : Shared} (d : Den C D s) (r : Reg) {h' : Heap} {tk : Nat} (hk : ∀ a o, s.heap.get? a = some o → h'.get? a = some o) (hz : s.heap.objs.size ≤ h'.objs.size)
    (hr : r.P h') (hn : r.foot.Nodup) (hf : ∀ a ∈ r.foot, s.heap.objs.size ≤ a) : Nxt s { s with heap := h', toks := tk } ∧ Den C ⟨D.m, D.rs ++ [r]⟩ { s with heap := h', toks := tk } := by
  have f1 : feet [r] = r.foot := by simp [feet]
  refine d.step [] (fun _ h => (nomatch h)) (fun a o _ e => hk a o e) (d.ns.mono (.of_keeps hk) fun o e => hk _ _ e) (fun x hx => ?_) ?_ fun a ha => ?_
  · rcases List.mem_append.mp hx with hx | hx
    · exact x.loc (.of_keeps hk) (fun a _ o e => hk a o e) (d.regs x hx)
    · rw [List.mem_singleton.mp hx]; exact hr
  · show (C.L :: feet (D.rs ++ [r])).Nodup
    rw [feet_append, f1, ← List.cons_append, List.nodup_append]
    refine ⟨d.nodup, hn, fun a ha b hb e => ?_⟩
    subst e
    exact absurd (d.notTp ha).lt (Nat.not_lt.mpr (hf a hb))
  · have ha : a ∈ feet (D.rs ++ [r]) := ha
    rw [feet_append, f1] at ha
    rcases List.mem_append.mp ha with ha | ha
    · exact .inl (.tail _ ha)
    · exact .inr (hf a ha)
/-- the locals change -/
theorem Den.locals {w : World} {C : Cx w} {D : DS} {s : Shared} (d : Den C D s) {m : Lc} {h' : Heap} {tk : Nat} (hs : Heap.SameBut C.L s.heap h') (hn : RNs h' C.L m) :
    Nxt s { s with heap := h', toks := tk } ∧ Den C ⟨m, D.rs⟩ { s with heap := h', toks := tk } := by
  have nd := List.nodup_cons.mp d.nodup
  have hk : ∀ a o, a ∉ [C.L] → s.heap.get? a = some o → h'.get? a = some o := fun a o q e => (hs.2 a (fun z => q (by simp [z]))).trans e
  have le : Le s.heap h' := fun a o e t => hk a o (fun q => by
    obtain ⟨o', e', t'⟩ := d.ns.notTp
    rw [List.mem_singleton.mp q] at e
    rw [e] at e'; cases e'; exact t' t) e
  refine d.step [C.L] (fun a h => by rw [List.mem_singleton.mp h]; exact .head _) hk hn (fun r hr => r.loc le (fun a ha o e => hk a o (fun q => ?_) e) (d.regs r hr)) d.nodup fun a ha => .inl (.tail _ ha)
  exact nd.1 (mem_feet.mpr ⟨r, hr, List.mem_singleton.mp q ▸ ha⟩)
/-- less is known -/
theorem Den.less {w : World} {C : Cx w} {D : DS} {s : Shared} (d : Den C D s) {m : Lc} {rs : List Reg} (hm : ∀ p ∈ m, p ∈ D.m) (hmn : (m.map (·.1)).Nodup) (hr : ∀ r ∈ rs, r ∈ D.rs) (hn : (feet rs).Nodup) : Den C ⟨m, rs⟩ s := by
  have sub : ∀ a ∈ feet rs, a ∈ feet D.rs := fun a ha => let ⟨r, h1, h2⟩ := mem_feet.mp ha; mem_feet.mpr ⟨r, hr r h1, h2⟩
  refine ⟨d.nxt, d.base, d.keep, d.size, ?_, fun r h => d.regs r (hr r h), List.nodup_cons.mpr ⟨fun q => (List.nodup_cons.mp d.nodup).1 (sub _ q), hn⟩, fun a ha => ?_⟩
  · obtain ⟨mv, h1, _, h2⟩ := d.ns
    exact ⟨mv, h1, hmn, fun x a e => h2 x a (hm _ e)⟩
  · rcases List.mem_cons.mp ha with rfl | ha
    · exact d.fresh _ (.head _)
    · exact d.fresh a (.tail _ (sub a ha))
/-- less is known of the locals: names stay, values may be forgotten -/
inductive Fg : Lc → Lc → Prop
  | nil : Fg [] []
  | keep {p : Str × Option AV} {m m' : Lc} : Fg m m' → Fg (p :: m) (p :: m')
  | drop {x : Str} {o : Option AV} {m m' : Lc} : Fg m m' → Fg ((x, o) :: m) ((x, none) :: m')
theorem Fg.refl : ∀ m : Lc, Fg m m
  | [] => .nil
  | _ :: m => .keep (Fg.refl m)
theorem Fg.keys {m m' : Lc} (h : Fg m m') : m'.map (·.1) = m.map (·.1) := by
  induction h with
  | nil => rfl
  | keep _ ih => simp [ih]
  | drop _ ih => simp [ih]
theorem Fg.mem {m m' : Lc} (h : Fg m m') : ∀ {x : Str} {a : AV}, (x, some a) ∈ m' → (x, some a) ∈ m := by
  induction h with
  | nil => intro _ _ h; exact h
  | keep _ ih =>
    intro x a h
    rcases List.mem_cons.mp h with e | h
    · rw [e]; exact .head _
    · exact .tail _ (ih h)
  | drop _ ih =>
    intro x a h
    rcases List.mem_cons.mp h with e | h
    · cases e
    · exact .tail _ (ih h)
theorem RNs.fg {h : Heap} {a : Addr} {m m' : Lc} (x : RNs h a m) (k : Fg m m') : RNs h a m' := by
  obtain ⟨mv, h1, nd, z⟩ := x
  exact ⟨mv, h1, by rw [k.keys]; exact nd, fun x a e => z x a (k.mem e)⟩
theorem Den.fg {w : World} {C : Cx w} {D : DS} {s : Shared} (d : Den C D s) {m : Lc} (k : Fg D.m m) : Den C ⟨m, D.rs⟩ s :=
  ⟨d.nxt, d.base, d.keep, d.size, d.ns.fg k, d.regs, d.nodup, d.fresh⟩
theorem Den.mNodup {w : World} {C : Cx w} {D : DS} {s : Shared} (d : Den C D s) : (D.m.map (·.1)).Nodup := let ⟨_, _, h, _⟩ := d.ns; h
theorem Den.rNodup {w : World} {C : Cx w} {D : DS} {s : Shared} (d : Den C D s) : (feet D.rs).Nodup := (List.nodup_cons.mp d.nodup).2
theorem feet_sublist {a b : List Reg} (h : a.Sublist b) : (feet a).Sublist (feet b) := by
  induction h with
  | slnil => exact .slnil
  | cons r _ ih => rw [feet_cons]; exact ih.trans (List.sublist_append_right _ _)
  | cons_cons r _ ih => rw [feet_cons, feet_cons]; exact (List.Sublist.refl _).append ih
/-- regions alone -/
theorem Den.sub {w : World} {C : Cx w} {D : DS} {s : Shared} (d : Den C D s) {rs : List Reg} (hr : rs.Sublist D.rs) : Den C ⟨D.m, rs⟩ s :=
  d.less (fun _ e => e) d.mNodup (fun _ h => hr.subset h) ((feet_sublist hr).nodup d.rNodup)
/-- one region is dropped, whatever befell its objects -/
theorem Den.drop {w : World} {C : Cx w} {D : DS} {s : Shared} (d : Den C D s) {i : Nat} {r : Reg} (hi : D.rs[i]? = some r) {h' : Heap} {tk : Nat}
    (hk : ∀ a o, a ∉ r.foot → s.heap.get? a = some o → h'.get? a = some o) : Nxt s { s with heap := h', toks := tk } ∧ Den C ⟨D.m, D.rs.eraseIdx i⟩ { s with heap := h', toks := tk } := by
  have inF : ∀ a ∈ r.foot, a ∈ C.L :: feet D.rs := fun a ha => .tail _ (mem_feet.mpr ⟨r, mem_of_get hi, ha⟩)
  have le : Le s.heap h' := fun a o e t => hk a o (fun q => by
    obtain ⟨o', e', t'⟩ := d.notTp (inF a q)
    rw [e] at e'; cases e'; exact t' t) e
  have nd := List.nodup_cons.mp d.nodup
  have sl := List.eraseIdx_sublist D.rs i
  have sf : ∀ a ∈ feet (D.rs.eraseIdx i), a ∈ feet D.rs := fun a ha => (feet_sublist sl).subset ha
  refine d.step r.foot inF hk (d.ns.mono le fun o e => hk _ _ (fun q => nd.1 (mem_feet.mpr ⟨r, mem_of_get hi, q⟩)) e) (fun x hx => ?_)
    (List.nodup_cons.mpr ⟨fun q => nd.1 (sf _ q), (feet_sublist sl).nodup nd.2⟩) fun a ha => .inl (.tail _ (sf a ha))
  obtain ⟨j, hne, hj⟩ := List.mem_eraseIdx_iff_getElem?.mp hx
  exact x.loc le (fun a ha o e => hk a o (fun q => feet_apart hi nd.2 j x hj hne a q ha) e) (d.regs x (mem_of_get hj))
/-- of one region less is known -/
theorem Den.weak {w : World} {C : Cx w} {D : DS} {s : Shared} (d : Den C D s) {i : Nat} {r r' : Reg} (hi : D.rs[i]? = some r) (hf : r'.foot = r.foot) (hp : ∀ h, r.P h → r'.P h) : Den C ⟨D.m, D.rs.set i r'⟩ s := by
  refine ⟨d.nxt, d.base, d.keep, d.size, d.ns, fun x hx => ?_, ?_, fun a ha => d.fresh a ?_⟩
  · rcases List.mem_or_eq_of_mem_set hx with hx | rfl
    · exact d.regs x hx
    · exact hp _ (d.regs r (mem_of_get hi))
  · show (C.L :: feet (D.rs.set i r')).Nodup
    rw [feet_set hi hf]; exact d.nodup
  · have ha : a ∈ C.L :: feet (D.rs.set i r') := ha
    rw [feet_set hi hf] at ha; exact ha
theorem Den.perm {w : World} {C : Cx w} {D : DS} {s : Shared} (d : Den C D s) {rs : List Reg} (p : D.rs.Perm rs) : Den C ⟨D.m, rs⟩ s :=
  d.less (fun _ e => e) d.mNodup (fun _ h => p.mem_iff.mpr h) ((p.flatMap_right _).nodup_iff.mp d.rNodup)
end Mine
end
section
open PySem PySem.W
set_option maxRecDepth 100000
namespace Mine
section
variable {prog : Program} {w : World} {C : Cx w} {E : Value → Shared → Prop} {D : DS}
/-- what is wanted behind a step -/
inductive Po (C : Cx w) {α β : Type} (R : Heap → α → β → Prop) (Q : β → DS → Prop) (s : Shared) (v : α) (s' : Shared) : Prop
  | mk (n : Nxt s s') (b : β) (D' : DS) (d : Den C D' s') (r : R s'.heap v b) (q : Q b D') : Po C R Q s v s'
noncomputable def GW (prog : Program) (w : World) (C : Cx w) (E : Value → Shared → Prop) {α β : Type} (R : Heap → α → β → Prop) (t : Sem α) (Q : β → DS → Prop) (D : DS) : Prop :=
  ∀ s, Den C D s → wpAny (model prog w) C.A t (Po C R Q s) E s
noncomputable abbrev GV (prog : Program) (w : World) (C : Cx w) (E : Value → Shared → Prop) {α β : Type} (R : Heap → α → β → Prop) (t : Sem α) (D : DS) (Q : β → DS → Prop) : Prop := GW prog w C E R t Q D
theorem Po.intro {α β : Type} {R : Heap → α → β → Prop} {Q : β → DS → Prop} {s s' : Shared} {v : α} {b : β} {D' : DS} (n : Nxt s s' ∧ Den C D' s') (r : R s'.heap v b) (q : Q b D') : Po C R Q s v s' := ⟨n.1, b, D', n.2, r, q⟩
theorem Po.here {α β : Type} {R : Heap → α → β → Prop} {Q : β → DS → Prop} {s : Shared} {v : α} {b : β} (d : Den C D s) (r : R s.heap v b) (q : Q b D) : Po C R Q s v s := ⟨.refl s, b, D, d, r, q⟩
theorem Po.after {α β : Type} {R : Heap → α → β → Prop} {Q : β → DS → Prop} {s s₁ s' : Shared} {v : α} (n : Nxt s s₁) (p : Po C R Q s₁ v s') : Po C R Q s v s' := let ⟨n', b, D', d, r, q⟩ := p; ⟨n.trans n', b, D', d, r, q⟩
theorem Po.mono {α β : Type} {R : Heap → α → β → Prop} {Q Q' : β → DS → Prop} (k : ∀ b D, Q b D → Q' b D) {s s' : Shared} {v : α} (p : Po C R Q s v s') : Po C R Q' s v s' := let ⟨n, b, D', d, r, q⟩ := p; ⟨n, b, D', d, r, k b D' q⟩
theorem GV.mono {α β : Type} {R : Heap → α → β → Prop} {t : Sem α} {Q Q' : β → DS → Prop} (h : GV prog w C E R t D Q) (k : ∀ b D, Q b D → Q' b D) : GV prog w C E R t D Q' :=
  fun s d => wpAny_mono (h s d) (fun _ _ p => p.mono k) fun _ _ x => x
theorem GV.monoE {α β : Type} {R : Heap → α → β → Prop} {t : Sem α} {Q : β → DS → Prop} (h : GV prog w C (fun _ _ => False) R t D Q) : GV prog w C E R t D Q :=
  fun s d => wpAny_mono (h s d) (fun _ _ p => p) fun _ _ x => x.elim
theorem GV.less {α β : Type} {R : Heap → α → β → Prop} {t : Sem α} {Q : β → DS → Prop} {D' : DS} (k : ∀ s, Den C D s → Den C D' s) (h : GV prog w C E R t D' Q) : GV prog w C E R t D Q := fun s d => h s (k s d)
noncomputable abbrev Rb : Heap → Bool → Bool → Prop := fun _ a b => a = b
noncomputable abbrev Ru : Heap → Unit → Unit → Prop := fun _ _ _ => True
noncomputable abbrev KU {β : Type} (Q : DS → Prop) (_ : β) (D : DS) : Prop := Q D
inductive FL where
  | next | brk | cont
  | ret (a : AV)
inductive RF (h : Heap) : Flow → FL → Prop
  | next : RF h .next .next
  | brk : RF h .brk .brk
  | cont : RF h .cont .cont
  | ret {v : Value} {a : AV} : Rv h v a → RF h (.ret v) (.ret a)
variable (prog w C E) in
noncomputable abbrev EV (t : Sem Value) (D : DS) (Q : AV → DS → Prop) : Prop := GV prog w C E Rv t D Q
variable (prog w C E) in
noncomputable abbrev BV (t : Sem Bool) (D : DS) (Q : Bool → DS → Prop) : Prop := GV prog w C E Rb t D Q
variable (prog w C E) in
noncomputable abbrev LV (t : Sem (List Value)) (D : DS) (Q : List AV → DS → Prop) : Prop := GV prog w C E RvL t D Q
variable (prog w C E) in
noncomputable abbrev UV (t : Sem Unit) (D : DS) (Q : DS → Prop) : Prop := GV prog w C E Ru t D (KU Q)
variable (prog w C E) in
noncomputable abbrev SV (t : Sem Flow) (D : DS) (Q : FL → DS → Prop) : Prop := GV prog w C E RF t D Q
/-- an operation on one value, on two, on three -/
noncomputable def P1 (prog : Program) (w : World) (C : Cx w) (E : Value → Shared → Prop) {α β : Type} (R : Heap → α → β → Prop) (f : Value → Sem α) (Q : β → DS → Prop) (a : AV) (D : DS) : Prop :=
  ∀ s u, Den C D s → Rv s.heap u a → wpAny (model prog w) C.A (f u) (Po C R Q s) E s
noncomputable abbrev O1 (prog : Program) (w : World) (C : Cx w) (E : Value → Shared → Prop) {α β : Type} (R : Heap → α → β → Prop) (f : Value → Sem α) (a : AV) (D : DS) (Q : β → DS → Prop) : Prop := P1 prog w C E R f Q a D
noncomputable def P2 (prog : Program) (w : World) (C : Cx w) (E : Value → Shared → Prop) {α β : Type} (R : Heap → α → β → Prop) (f : Value → Value → Sem α) (Q : β → DS → Prop) (a b : AV) (D : DS) : Prop :=
  ∀ s u v, Den C D s → Rv s.heap u a → Rv s.heap v b → wpAny (model prog w) C.A (f u v) (Po C R Q s) E s
noncomputable abbrev O2 (prog : Program) (w : World) (C : Cx w) (E : Value → Shared → Prop) {α β : Type} (R : Heap → α → β → Prop) (f : Value → Value → Sem α) (a b : AV) (D : DS) (Q : β → DS → Prop) : Prop := P2 prog w C E R f Q a b D
noncomputable def P3 (prog : Program) (w : World) (C : Cx w) (E : Value → Shared → Prop) {α β : Type} (R : Heap → α → β → Prop) (f : Value → Value → Value → Sem α) (Q : β → DS → Prop) (a b c : AV) (D : DS) : Prop :=
  ∀ s u v x, Den C D s → Rv s.heap u a → Rv s.heap v b → Rv s.heap x c → wpAny (model prog w) C.A (f u v x) (Po C R Q s) E s
noncomputable abbrev O3 (prog : Program) (w : World) (C : Cx w) (E : Value → Shared → Prop) {α β : Type} (R : Heap → α → β → Prop) (f : Value → Value → Value → Sem α) (a b c : AV) (D : DS) (Q : β → DS → Prop) : Prop := P3 prog w C E R f Q a b c D
noncomputable def PL (prog : Program) (w : World) (C : Cx w) (E : Value → Shared → Prop) {α β : Type} (R : Heap → α → β → Prop) (f : List Value → Sem α) (Q : β → DS → Prop) (l : List AV) (D : DS) : Prop :=
  ∀ s us, Den C D s → RvL s.heap us l → wpAny (model prog w) C.A (f us) (Po C R Q s) E s
noncomputable abbrev OL (prog : Program) (w : World) (C : Cx w) (E : Value → Shared → Prop) {α β : Type} (R : Heap → α → β → Prop) (f : List Value → Sem α) (l : List AV) (D : DS) (Q : β → DS → Prop) : Prop := PL prog w C E R f Q l D
/- the continuations of the rules, by name: no binder in a proof's term -/
section
variable (prog w C E)
variable {α β : Type}
noncomputable abbrev K2 (t : Sem Value) (R : Heap → α → β → Prop) (f : Value → Value → Sem α) (Q : β → DS → Prop) (a : AV) (D : DS) : Prop := GW prog w C E Rv t (P2 prog w C E R f Q a) D
noncomputable abbrev K3b (u : Sem Value) (R : Heap → α → β → Prop) (f : Value → Value → Value → Sem α) (Q : β → DS → Prop) (a b : AV) (D : DS) : Prop := GW prog w C E Rv u (P3 prog w C E R f Q a b) D
noncomputable abbrev K3 (t u : Sem Value) (R : Heap → α → β → Prop) (f : Value → Value → Value → Sem α) (Q : β → DS → Prop) (a : AV) (D : DS) : Prop := GW prog w C E Rv t (K3b prog w C E u R f Q a) D
end
inductive BT (Q : Bool → DS → Prop) (c : AV) (D : DS) : Prop
  | mk (t : Bool) (e : c = .d (.bool t)) (q : Q t D) : BT Q c D
structure Br (T F : DS → Prop) (b : Bool) (D : DS) : Prop where
  t : b = true → T D
  f : b = false → F D
noncomputable abbrev SK (N : DS → Prop) (Q : FL → DS → Prop) (f : FL) (D : DS) : Prop := match f with
  | .next => N D
  | f => Q f D
noncomputable abbrev KRet (Q : FL → DS → Prop) (a : AV) (D : DS) : Prop := Q (.ret a) D
noncomputable abbrev LQ (Q : List AV → DS → Prop) (a : AV) (l : List AV) (D : DS) : Prop := Q (a :: l) D
variable (prog w C E) in
noncomputable abbrev LK (t : Sem (List Value)) (Q : List AV → DS → Prop) (a : AV) (D : DS) : Prop := GW prog w C E RvL t (LQ Q a) D
inductive TupK (Q : AV → DS → Prop) (l : List AV) (D : DS) : Prop
  | mk (xs : List PyData) (e : l = List.map AV.d xs) (h : xs.length ≤ 1000) (q : Q (.d (.tuple xs)) D) : TupK Q l D
structure TupL (Q : AV → DS → Prop) (l : List AV) (D : DS) : Prop where
  h : l.length ≤ 1000
  q : Q (.tup l) D
structure LisK (prog : Program) (w : World) (Q : AV → DS → Prop) (l : List AV) (D : DS) : Prop where
  h : l.length ≤ 1000
  q : ∀ a, Q (.v (.ref a)) ⟨D.m, D.rs ++ [one prog w a (.list l)]⟩
inductive Has (m : Lc) (i : Nat) (x : Str) : Prop
  | mk (o : Option AV) (h : m[i]? = some (x, o)) : Has m i x
structure SetK (i : Nat) (x : Str) (Q : DS → Prop) (a : AV) (D : DS) : Prop where
  h : Has D.m i x
  q : Q ⟨D.m.set i (x, some a), D.rs⟩
inductive AugK (i : Nat) (x : Str) (Q : DS → Prop) (c : AV) (D : DS) : Prop
  | mk (o : Option AV) (h : D.m[i]? = some (x, o)) (q : Q ⟨D.m.set i (x, some c), D.rs⟩) : AugK i x Q c D
section
variable {env : Env} {pos : Pos} {k : Nat}
/- constants -/
theorem e_int {i : Int} {Q : AV → DS → Prop} (h : Q (.d (.int i)) D) : EV prog w C E (eval (.Constant (.int i) k pos) env) D Q :=
  fun s d => wpAny_Constant_int (.intro ⟨.toks _ _, d.toks _⟩ (.d (.int _ _)) h)
theorem e_str {x : Str} {Q : AV → DS → Prop} (h : Q (.d (.str x)) D) : EV prog w C E (eval (.Constant (.str x) k pos) env) D Q :=
  fun s d => wpAny_Constant_str (.intro ⟨.toks _ _, d.toks _⟩ (.d (.str _ _)) h)
theorem e_bool {b : Bool} {Q : AV → DS → Prop} (h : Q (.d (.bool b)) D) : EV prog w C E (eval (.Constant (.bool b) k pos) env) D Q :=
  fun s d => wpAny_Constant_bool (.here d (.d (.bool _)) h)
theorem e_none {Q : AV → DS → Prop} (h : Q (.d .none) D) : EV prog w C E (eval (.Constant .none k pos) env) D Q :=
  fun s d => wpAny_Constant_none (.here d (.d .none) h)
/- names -/
theorem e_loc {i : Nat} {x : Str} {a : AV} {Q : AV → DS → Prop} (hi : D.m[i]? = some (x, some a)) (h : Q a D) (hL : env.locals = C.L := by rfl) (hk : env.scope.kind = .function := by rfl)
    (hl : env.kindOf x = some .local := by rfl) (hd : (x == ("__debug__" : Str)) = false := by decide) : EV prog w C E (eval (.Name x pos) env) D Q := fun s d => by
  obtain ⟨mv, hn, _, z⟩ := d.ns
  obtain ⟨v, h1, h2⟩ := z x a (List.mem_of_getElem? hi)
  exact wpAny_Name (wpAny_loadName_local hk hl (hL ▸ hn) h1 (.here d h2 h)) hd
theorem u_store {i : Nat} {x : Str} {o : Option AV} {a : AV} {v : Value} {s : Shared} {Q : DS → Prop} (d : Den C D s) (hv : Rv s.heap v a) (hi : D.m[i]? = some (x, o)) (h : Q ⟨D.m.set i (x, some a), D.rs⟩) (hL : env.locals = C.L := by rfl)
    (hk : env.scope.kind = .function := by rfl) (hl : env.kindOf x = some .local := by rfl) : wpAny (model prog w) C.A (storeName env x v) (Po C Ru (KU Q) s) E s := by
  obtain ⟨mv, hn, nd, z⟩ := d.ns
  refine wpAny_storeName_local hl (hL ▸ hn) (fun h' hn' hs => ?_) (by rw [hk]; rfl)
  rw [hL] at hn' hs
  have le : Le s.heap h' := fun b o e t => (hs.2 b (fun q => by
    subst q
    obtain ⟨o', e', t'⟩ := d.ns.notTp
    rw [e] at e'; cases e'; exact t' t)).trans e
  exact .intro (b := ()) (d.locals hs (d.ns.put hi le _ hn' (hv.le le) fun mv' hm' y => by
    obtain ⟨o1, es1, ep1, a1, a2, _, a3⟩ := hn
    obtain ⟨o2, es2, ep2, b1, b2, _, b3⟩ := hm'
    rw [a1] at b1; cases b1
    rw [a2] at b2; cases b2
    rw [← a3, b3])) trivial h
/- displays -/
theorem l_nil {Q : List AV → DS → Prop} (h : Q [] D) : LV prog w C E (spliced (backTo pos (starEach [] env))) D Q := fun s d => wpAny_items_nil (.here d .nil h)
theorem l_cons {e : Expr} {rest : List Expr} {Q : List AV → DS → Prop} (h : EV prog w C E (eval e env) D (LK prog w C E (spliced (backTo pos (starEach rest env))) Q))
    (he : starEach (e :: rest) env = (false, eval e env) :: starEach rest env := by rfl) : LV prog w C E (spliced (backTo pos (starEach (e :: rest) env))) D Q := fun s d =>
  wpAny_items_cons (wpAny_mono (h s d) (fun v s₁ p => by
    obtain ⟨n, a, D₁, d₁, r, q⟩ := p
    refine wpAny_mono (q s₁ d₁) (fun vs s₂ p => ?_) fun _ _ x => x
    obtain ⟨n', l, D₂, d₂, r', q'⟩ := p
    exact ⟨n.trans n', a :: l, D₂, d₂, .cons (r.le n'.1) r', q'⟩) fun _ _ x => x) he
theorem push_keeps (h : Heap) (o : Obj) : ∀ a x, h.get? a = some x → (h.push o).get? a = some x := fun _ _ e => Heap.get?_push_of_some _ e
theorem push_size (h : Heap) (o : Obj) : h.objs.size ≤ (h.push o).objs.size := by rw [Heap.size_push]; exact Nat.le_succ _
theorem toks_eta (s : Shared) (h : Heap) : ({ s with heap := h } : Shared) = { s with heap := h, toks := s.toks } := rfl
/-- a tuple of pure data -/
theorem e_tuple {elts : List Expr} {Q : AV → DS → Prop} (h : LV prog w C E (spliced (backTo pos (starEach elts env))) D (TupK Q)) :
    EV prog w C E (eval (.Tuple elts k pos) env) D Q := fun s d =>
  wpAny_Tuple (wpAny_mono (h s d) (fun vs s₁ p => by
    obtain ⟨n, l, D₁, d₁, r, xs, rfl, hz, q⟩ := p
    have hl : vs.length = xs.length := by rw [r.length, List.length_map]
    refine ⟨by rw [hl, sizeLine_eq]; omega, ?_⟩
    have st := d₁.keeps (tk := s₁.toks) (push_keeps s₁.heap { cls := .type "tuple", data := .seq vs.toArray }) (push_size _ _)
    exact Po.after n (.intro st (.d (.tuple (Heap.get?_push_size _ rfl) rfl rfl (RvL.reads (by rw [List.toList_toArray]; exact r.le st.1.1)))) q)) fun _ _ x => x)
theorem e_tup {elts : List Expr} {Q : AV → DS → Prop} (h : LV prog w C E (spliced (backTo pos (starEach elts env))) D (TupL Q)) :
    EV prog w C E (eval (.Tuple elts k pos) env) D Q := fun s d =>
  wpAny_Tuple (wpAny_mono (h s d) (fun vs s₁ p => by
    obtain ⟨n, l, D₁, d₁, r, hz, q⟩ := p
    have hl := r.length
    refine ⟨by rw [hl, sizeLine_eq]; omega, ?_⟩
    have st := d₁.keeps (tk := s₁.toks) (push_keeps s₁.heap { cls := .type "tuple", data := .seq vs.toArray }) (push_size _ _)
    exact Po.after n (.intro st (.tup (Heap.get?_push_size _ rfl) rfl rfl (by rw [List.toList_toArray]; exact r.le st.1.1)) q)) fun _ _ x => x)
/-- a list: a new region -/
theorem e_list {elts : List Expr} {Q : AV → DS → Prop} (h : LV prog w C E (spliced (backTo pos (starEach elts env))) D (LisK prog w Q)) :
    EV prog w C E (eval (.List elts pos) env) D Q := fun s d =>
  wpAny_List (wpAny_mono (h s d) (fun vs s₁ p => by
    obtain ⟨n, l, D₁, d₁, r, hz, q⟩ := p
    have hl := r.length
    refine ⟨by rw [hl, sizeLine_eq]; omega, ?_⟩
    have st := d₁.new (tk := s₁.toks) (one prog w s₁.heap.objs.size (.list l)) (push_keeps s₁.heap { cls := .type "list", data := .seq vs.toArray }) (push_size _ _)
      ⟨vs.toArray, 0, Heap.get?_push_size _ rfl, by rw [List.toList_toArray]; exact r.le (.of_keeps (push_keeps _ _))⟩ (by simp [one]) (by simp [one])
    exact Po.after n (.intro st (.v _) (q _))) fun _ _ x => x)
/- operators -/
theorem seq1 {α β : Type} {R : Heap → α → β → Prop} {t : Sem Value} {f : Value → Sem α} {Q : β → DS → Prop} {s : Shared} (d : Den C D s) (h : EV prog w C E t D (P1 prog w C E R f Q)) :
    wpAny (model prog w) C.A t (fun v s₁ => wpAny (model prog w) C.A (f v) (Po C R Q s) E s₁) E s :=
  wpAny_mono (h s d) (fun v s₁ p => by
    obtain ⟨n, a, D₁, d₁, r, q⟩ := p
    exact wpAny_mono (q s₁ v d₁ r) (fun _ _ z => z.after n) fun _ _ x => x) fun _ _ x => x
theorem seq2 {α β : Type} {R : Heap → α → β → Prop} {t u : Sem Value} {f : Value → Value → Sem α} {Q : β → DS → Prop} {s : Shared} (d : Den C D s)
    (h : EV prog w C E t D (K2 prog w C E u R f Q)) :
    wpAny (model prog w) C.A t (fun v s₁ => wpAny (model prog w) C.A u (fun x s₂ => wpAny (model prog w) C.A (f v x) (Po C R Q s) E s₂) E s₁) E s :=
  wpAny_mono (h s d) (fun v s₁ p => by
    obtain ⟨n, a, D₁, d₁, r, q⟩ := p
    refine wpAny_mono (q s₁ d₁) (fun x s₂ p => ?_) fun _ _ x => x
    obtain ⟨n', b, D₂, d₂, r', q'⟩ := p
    exact wpAny_mono (q' s₂ v x d₂ (r.le n'.1) r') (fun _ _ z => z.after (n.trans n')) fun _ _ x => x) fun _ _ x => x
theorem seq3 {α β : Type} {R : Heap → α → β → Prop} {t u y : Sem Value} {f : Value → Value → Value → Sem α} {Q : β → DS → Prop} {s : Shared} (d : Den C D s)
    (h : EV prog w C E t D (K3 prog w C E u y R f Q)) :
    wpAny (model prog w) C.A t (fun v s₁ => wpAny (model prog w) C.A u (fun x s₂ => wpAny (model prog w) C.A y (fun z s₃ => wpAny (model prog w) C.A (f v x z) (Po C R Q s) E s₃) E s₂) E s₁) E s :=
  wpAny_mono (h s d) (fun v s₁ p => by
    obtain ⟨n, a, D₁, d₁, r, q⟩ := p
    refine wpAny_mono (q s₁ d₁) (fun x s₂ p => ?_) fun _ _ x => x
    obtain ⟨n', b, D₂, d₂, r', q'⟩ := p
    refine wpAny_mono (q' s₂ d₂) (fun z s₃ p => ?_) fun _ _ x => x
    obtain ⟨n'', c, D₃, d₃, r'', q''⟩ := p
    exact wpAny_mono (q'' s₃ v x z d₃ (r.le (n'.1.trans n''.1)) (r'.le n''.1) r'') (fun _ _ z => z.after (n.trans (n'.trans n''))) fun _ _ x => x) fun _ _ x => x
theorem e_bin {l r : Expr} {op : Operator} {Q : AV → DS → Prop} (h : EV prog w C E (eval l env) D (K2 prog w C E (eval r env) Rv (binaryOp op) Q)) :
    EV prog w C E (eval (.BinOp l op r pos) env) D Q := fun s d => wpAny_BinOp (seq2 d h)
theorem e_cmp {l r : Expr} {op : CmpOp} {Q : AV → DS → Prop} (h : EV prog w C E (eval l env) D (K2 prog w C E (eval r env) Rv (compareOp op) Q))
    (hm : behindInMarks op r = false := by with_unfolding_all rfl) : EV prog w C E (eval (.Compare l [op] [r] pos) env) D Q := fun s d => wpAny_Compare1 (seq2 d h) hm
theorem e_un {x : Expr} {op : UnaryOp} {Q : AV → DS → Prop} (h : EV prog w C E (eval x env) D (P1 prog w C E Rv (unaryOp op) Q)) : EV prog w C E (eval (.UnaryOp op x pos) env) D Q :=
  fun s d => wpAny_UnaryOp (seq1 d h)
/-- a test as a comparison: its truth -/
theorem b_cmp {l r : Expr} {op : CmpOp} {whole : Sem Value} {Q : Bool → DS → Prop} (h : EV prog w C E (eval l env) D (K2 prog w C E (eval r env) Rv (compareOp op) (BT Q)))
    (hm : behindInMarks op r = false := by with_unfolding_all rfl) : BV prog w C E (isTrue (.Compare l [op] [r] pos) env whole) D Q := fun s d => by
  refine wpAny_isTrue_Compare1 (wpAny_mono (seq2 d h) (fun v s₁ p => wpAny_mono p (fun x s₂ p => wpAny_mono p (fun c s₃ p => ?_) fun _ _ x => x) fun _ _ x => x) fun _ _ x => x) hm
  obtain ⟨n, b, D₃, d₃, r₃, t, rfl, q⟩ := p
  rw [show _ = Value.bool t from Reads.inv_ r₃.data rfl]
  exact wpAny_truthy_bool ⟨n, t, D₃, d₃, rfl, q⟩
noncomputable abbrev KNot (Q : Bool → DS → Prop) (b : Bool) (D : DS) : Prop := Q (!b) D
theorem b_not {x : Expr} {whole : Sem Value} {Q : Bool → DS → Prop} (h : BV prog w C E (isTrue x env (eval x env)) D (KNot Q)) : BV prog w C E (isTrue (.UnaryOp .Not x pos) env whole) D Q := fun s d =>
  wpAny_isTrue_Not (wpAny_mono (h s d) (fun b s₁ p => by
    obtain ⟨n, b', D₁, d₁, r, q⟩ := p
    obtain rfl : b = b' := r
    exact ⟨n, !b, D₁, d₁, rfl, q⟩) fun _ _ x => x)
variable (prog w C E) in
noncomputable abbrev KB {α β : Type} (R : Heap → α → β → Prop) (f : Bool → Sem α) (Q : β → DS → Prop) (b : Bool) (D : DS) : Prop := GW prog w C E R (f b) Q D
theorem seqB {α β : Type} {R : Heap → α → β → Prop} {t : Sem Bool} {f : Bool → Sem α} {Q : β → DS → Prop} {s : Shared} (d : Den C D s) (h : BV prog w C E t D (KB prog w C E R f Q)) :
    wpAny (model prog w) C.A t (fun b s₁ => wpAny (model prog w) C.A (f b) (Po C R Q s) E s₁) E s :=
  wpAny_mono (h s d) (fun v s₁ p => by
    obtain ⟨n, a, D₁, d₁, r, q⟩ := p
    obtain rfl : v = a := r
    exact wpAny_mono (q s₁ d₁) (fun _ _ z => z.after n) fun _ _ x => x) fun _ _ x => x
theorem s_if {test : Expr} {body orelse : List Stmt} {Q : FL → DS → Prop}
    (h : BV prog w C E (isTrue test env (eval test env)) D (Br (GW prog w C E RF (execs body env) Q) (GW prog w C E RF (execs orelse env) Q))) :
    SV prog w C E (exec (.If test body orelse pos) env) D Q := fun s d =>
  wpAny_If (wpAny_mono (seqB (R := RF) (f := fun b => if b then execs body env else execs orelse env) d (h.mono fun b D₁ q => by cases b <;> first | exact q.1 rfl | exact q.2 rfl)) (fun b s₁ p => by cases b <;> exact p) fun _ _ x => x)
theorem e_ifexp {test body orelse : Expr} {Q : AV → DS → Prop}
    (h : BV prog w C E (isTrue test env (eval test env)) D (Br (GW prog w C E Rv (eval body env) Q) (GW prog w C E Rv (eval orelse env) Q))) :
    EV prog w C E (eval (.IfExp test body orelse pos) env) D Q := fun s d =>
  wpAny_IfExp (wpAny_mono (seqB (R := Rv) (f := fun b => if b then eval body env else eval orelse env) d (h.mono fun b D₁ q => by cases b <;> first | exact q.1 rfl | exact q.2 rfl)) (fun b s₁ p => by cases b <;> exact p) fun _ _ x => x)
theorem b_val {e : Expr} {Q : Bool → DS → Prop} (h : EV prog w C E (eval e env) D (P1 prog w C E Rb truthy Q))
    (he : isTrue e env (eval e env) = (do let v ← eval e env; standAt e.pos; holding [v] (truthy v)) := by rfl) : BV prog w C E (isTrue e env (eval e env)) D Q := fun s d =>
  wpAny_isTrue_value (seq1 d h) he
theorem b_bool {op : BoolOp} {values : List Expr} {whole : Sem Value} {Q : Bool → DS → Prop} (h : BV prog w C E (allTrue op values env) D Q) : BV prog w C E (isTrue (.BoolOp op values pos) env whole) D Q := fun s d =>
  wpAny_isTrue_BoolOp (h s d)
theorem b_and_nil {Q : Bool → DS → Prop} (h : Q true D) : BV prog w C E (allTrue .And [] env) D Q := fun s d => wpAny_allTrue_And_nil (.here d rfl h)
theorem b_or_nil {Q : Bool → DS → Prop} (h : Q false D) : BV prog w C E (allTrue .Or [] env) D Q := fun s d => wpAny_allTrue_Or_nil (.here d rfl h)
theorem b_and {x : Expr} {rest : List Expr} {Q : Bool → DS → Prop}
    (h : BV prog w C E (isTrue x env (eval x env)) D (Br (GW prog w C E Rb (allTrue .And rest env) Q) (Q false))) : BV prog w C E (allTrue .And (x :: rest) env) D Q := fun s d =>
  wpAny_allTrue_And_cons (wpAny_mono (h s d) (fun b s₁ p => by
    obtain ⟨n, b', D₁, d₁, r, q⟩ := p
    obtain rfl : b = b' := r
    cases b
    · exact ⟨n, false, D₁, d₁, rfl, q.2 rfl⟩
    · exact wpAny_mono (q.1 rfl s₁ d₁) (fun _ _ z => z.after n) fun _ _ x => x) fun _ _ x => x)
theorem b_or {x : Expr} {rest : List Expr} {Q : Bool → DS → Prop}
    (h : BV prog w C E (isTrue x env (eval x env)) D (Br (Q true) (GW prog w C E Rb (allTrue .Or rest env) Q))) : BV prog w C E (allTrue .Or (x :: rest) env) D Q := fun s d =>
  wpAny_allTrue_Or_cons (wpAny_mono (h s d) (fun b s₁ p => by
    obtain ⟨n, b', D₁, d₁, r, q⟩ := p
    obtain rfl : b = b' := r
    cases b
    · exact wpAny_mono (q.2 rfl s₁ d₁) (fun _ _ z => z.after n) fun _ _ x => x
    · exact ⟨n, true, D₁, d₁, rfl, q.1 rfl⟩) fun _ _ x => x)
/- statements -/
theorem ss_nil {Q : FL → DS → Prop} (h : Q .next D) : SV prog w C E (execs [] env) D Q := fun s d => wpAny_execs_nil (.here d .next h)
theorem ss_cons {st : Stmt} {rest : List Stmt} {Q : FL → DS → Prop} (h : SV prog w C E (exec st env) D (SK (GW prog w C E RF (execs rest env) Q) Q)) :
    SV prog w C E (execs (st :: rest) env) D Q := fun s d =>
  wpAny_execs_cons (wpAny_mono (h s d) (fun f s₁ p => by
    obtain ⟨n, f', D₁, d₁, r, q⟩ := p
    cases r with
    | next => exact wpAny_mono (q s₁ d₁) (fun _ _ z => z.after n) fun _ _ x => x
    | brk => exact ⟨n, _, D₁, d₁, .brk, q⟩
    | cont => exact ⟨n, _, D₁, d₁, .cont, q⟩
    | ret r => exact ⟨n, _, D₁, d₁, .ret r, q⟩) fun _ _ x => x)
theorem s_ret {e : Expr} {Q : FL → DS → Prop} (h : EV prog w C E (eval e env) D (KRet Q)) : SV prog w C E (exec (.Return (some e) pos) env) D Q := fun s d =>
  wpAny_Return_some (wpAny_mono (h s d) (fun v s₁ p => by
    obtain ⟨n, a, D₁, d₁, r, q⟩ := p
    exact ⟨n, _, D₁, d₁, .ret r, q⟩) fun _ _ x => x)
theorem s_assign {x : Str} {pos' : Pos} {value : Expr} {i : Nat} {Q : FL → DS → Prop} (h : EV prog w C E (eval value env) D (SetK i x (Q .next)))
    (hs : swapsWith value (some (.Name x pos')) pos.line env = pure false := by rfl) (hL : env.locals = C.L := by rfl) (hk : env.scope.kind = .function := by rfl) (hl : env.kindOf x = some .local := by rfl) :
    SV prog w C E (exec (.Assign [.Name x pos'] value pos) env) D Q := fun s d =>
  wpAny_Assign_Name (wpAny_mono (h s d) (fun v s₁ p => by
    obtain ⟨n, a, D₁, d₁, r, ⟨o, hi⟩, q⟩ := p
    refine wpAny_mono (u_store (Q := fun D' => Q .next D') d₁ r hi q hL hk hl) (fun _ s₂ p => ?_) fun _ _ x => x
    obtain ⟨n', _, D₂, d₂, _, q⟩ := p
    exact ⟨n.trans n', .next, D₂, d₂, .next, q⟩) fun _ _ x => x) hs
theorem s_expr {e : Expr} {Q : FL → DS → Prop} (h : EV prog w C E (eval e env) D (KU (Q .next))) (hi : interactive env = false := by rfl) (hs : swapsWith e none pos.line env = pure false := by rfl) :
    SV prog w C E (exec (.Expr e pos) env) D Q := fun s d =>
  wpAny_Expr_any (wpAny_mono (h s d) (fun v s₁ p => by
    obtain ⟨n, a, D₁, d₁, r, q⟩ := p
    exact ⟨n, _, D₁, d₁, .next, q⟩) fun _ _ x => x) hi hs
theorem s_brk {Q : FL → DS → Prop} (h : Q .brk D) : SV prog w C E (exec (.Break pos) env) D Q := fun s d => wpAny_Break (.here d .brk h)
theorem s_pass {Q : FL → DS → Prop} (h : Q .next D) : SV prog w C E (exec (.Pass pos) env) D Q := fun s d => wpAny_Pass (.here d .next h)
theorem s_aug {x : Str} {pos' : Pos} {op : Operator} {value : Expr} {i : Nat} {a : AV} {Q : FL → DS → Prop} (hi : D.m[i]? = some (x, some a))
    (h : EV prog w C E (eval value env) D (P2 prog w C E Rv (inplaceOp op) (AugK i x (Q .next)) a))
    (hL : env.locals = C.L := by rfl) (hk : env.scope.kind = .function := by rfl) (hl : env.kindOf x = some .local := by rfl) : SV prog w C E (exec (.AugAssign (.Name x pos') op value pos) env) D Q := fun s d => by
  obtain ⟨mv, hn, _, z⟩ := d.ns
  obtain ⟨v, h1, h2⟩ := z x a (List.mem_of_getElem? hi)
  refine wpAny_AugAssign_Name (wpAny_loadName_local hk hl (hL ▸ hn) h1 (wpAny_mono (h s d) (fun u s₁ p => ?_) fun _ _ x => x))
  obtain ⟨n, b, D₁, d₁, r, q⟩ := p
  refine wpAny_mono (q s₁ v u d₁ (h2.le n.1) r) (fun y s₂ p => ?_) fun _ _ x => x
  obtain ⟨n', c, D₂, d₂, r', o, hi', q'⟩ := p
  refine wpAny_mono (u_store (Q := fun D' => Q .next D') d₂ r' hi' q' hL hk hl) (fun _ s₃ p => ?_) fun _ _ x => x
  obtain ⟨n'', _, D₃, d₃, _, q⟩ := p
  exact ⟨n.trans (n'.trans n''), .next, D₃, d₃, .next, q⟩
theorem s_setitem {o i value : Expr} {pos' : Pos} {Q : FL → DS → Prop}
    (h : EV prog w C E (eval value env) D (K3 prog w C E (eval o env) (eval i env) Ru (fun v ov iv => setItem ov iv v) (KU (Q .next))))
    (hs : swapsWith value (some (.Subscript o i pos')) pos.line env = pure false := by rfl) : SV prog w C E (exec (.Assign [.Subscript o i pos'] value pos) env) D Q := fun s d =>
  wpAny_Assign_Subscript (wpAny_mono (seq3 (f := fun v ov iv => setItem ov iv v) d h) (fun v s₁ p => wpAny_mono p (fun u s₂ p => wpAny_mono p (fun z s₃ p => wpAny_mono p (fun _ s₄ p => by
    obtain ⟨n, _, D', d', _, q⟩ := p
    exact ⟨n, _, D', d', .next, q⟩) fun _ _ x => x) fun _ _ x => x) fun _ _ x => x) fun _ _ x => x) hs
theorem s_setattr {o value : Expr} {attr : Str} {pos' : Pos} {Q : FL → DS → Prop}
    (h : EV prog w C E (eval value env) D (K2 prog w C E (eval o env) Ru (fun v ov => setAttr ov attr v) (KU (Q .next))))
    (hs : swapsWith value (some (.Attribute o attr pos')) pos.line env = pure false := by rfl) : SV prog w C E (exec (.Assign [.Attribute o attr pos'] value pos) env) D Q := fun s d =>
  plainObj_wpAny_Assign_Attribute (wpAny_mono (seq2 (f := fun v ov => setAttr ov attr v) d h) (fun v s₁ p => wpAny_mono p (fun u s₂ p => wpAny_mono p (fun _ s₄ p => by
    obtain ⟨n, _, D', d', _, q⟩ := p
    exact ⟨n, _, D', d', .next, q⟩) fun _ _ x => x) fun _ _ x => x) fun _ _ x => x) hs
end
end
end Mine
end
section
open PySem PySem.W
set_option maxRecDepth 100000
namespace Mine
section
variable {prog : Program} {w : World} {C : Cx w} {E : Value → Shared → Prop} {D : DS} {env : Env} {pos : Pos}
theorem Den.K {s : Shared} (d : Den C D s) : (KK w).In s.heap := C.bs.K.keeps d.base
theorem Den.bs {s : Shared} (d : Den C D s) : Bs w s.heap := C.bs.keeps d.base
theorem Cx.eqRoom (C : Cx w) : C.A.units + 64 < cLine := by have := C.units; show _ < 9900; omega
theorem Rv.int_ {h : Heap} {v : Value} {i : Int} (r : Rv h v (.d (.int i))) : ∃ t, v = .int i t := Reads.inv_ r.data rfl
theorem Rv.str_ {h : Heap} {v : Value} {x : Str} (r : Rv h v (.d (.str x))) : ∃ t, v = .str x t := Reads.inv_ r.data rfl
theorem Rv.bool_ {h : Heap} {v : Value} {b : Bool} (r : Rv h v (.d (.bool b))) : v = .bool b := Reads.inv_ r.data rfl
theorem Rv.none_ {h : Heap} {v : Value} (r : Rv h v (.d .none)) : v = .none := Reads.inv_ r.data rfl
theorem Rv.v_ {h : Heap} {v x : Value} (r : Rv h v (.v x)) : v = x := r.inv
theorem Rv.reads_ {h : Heap} {v : Value} {x : PyData} (r : Rv h v (.d x)) : Reads h v x [] := r.data
/- the arguments of an operation, taken apart once -/
section
variable {α β : Type} {R : Heap → α → β → Prop} {Q : β → DS → Prop}
theorem o1v {f : Value → Sem α} {x : Value} (h : ∀ s, Den C D s → wpAny (model prog w) C.A (f x) (Po C R Q s) E s) : O1 prog w C E R f (.v x) D Q := fun s u d r => r.v_ ▸ h s d
theorem o1i {f : Value → Sem α} {i : Int} (h : ∀ s t, Den C D s → wpAny (model prog w) C.A (f (.int i t)) (Po C R Q s) E s) : O1 prog w C E R f (.d (.int i)) D Q := fun s u d r => by obtain ⟨t, rfl⟩ := r.int_; exact h s t d
theorem o2v1 {f : Value → Value → Sem α} {x : Value} {b : AV} (h : ∀ s v, Den C D s → Rv s.heap v b → wpAny (model prog w) C.A (f x v) (Po C R Q s) E s) : O2 prog w C E R f (.v x) b D Q := fun s u v d r q => r.v_ ▸ h s v d q
theorem o2v2 {f : Value → Value → Sem α} {x : Value} {a : AV} (h : ∀ s u, Den C D s → Rv s.heap u a → wpAny (model prog w) C.A (f u x) (Po C R Q s) E s) : O2 prog w C E R f a (.v x) D Q := fun s u v d r q => q.v_ ▸ h s u d r
theorem o2vi {f : Value → Value → Sem α} {x : Value} {i : Int} (h : ∀ s t, Den C D s → wpAny (model prog w) C.A (f x (.int i t)) (Po C R Q s) E s) : O2 prog w C E R f (.v x) (.d (.int i)) D Q := o2v1 fun s v d q => by obtain ⟨t, rfl⟩ := q.int_; exact h s t d
theorem o2ii {f : Value → Value → Sem α} {i j : Int} (h : ∀ s t t', Den C D s → wpAny (model prog w) C.A (f (.int i t) (.int j t')) (Po C R Q s) E s) : O2 prog w C E R f (.d (.int i)) (.d (.int j)) D Q := fun s u v d r q => by
  obtain ⟨t, rfl⟩ := r.int_; obtain ⟨t', rfl⟩ := q.int_; exact h s t t' d
theorem ol1 {f : List Value → Sem α} {a : AV} (h : ∀ s u, Den C D s → Rv s.heap u a → wpAny (model prog w) C.A (f [u]) (Po C R Q s) E s) : OL prog w C E R f [a] D Q := fun s us d r => by
  obtain ⟨u, vs, rfl⟩ := r.some
  have := r.tl.none; subst this
  exact h s u d r.hd
theorem ol2 {f : List Value → Sem α} {a b : AV} (h : ∀ s u v, Den C D s → Rv s.heap u a → Rv s.heap v b → wpAny (model prog w) C.A (f [u, v]) (Po C R Q s) E s) : OL prog w C E R f [a, b] D Q := fun s us d r => by
  obtain ⟨u, vs, rfl⟩ := r.some
  obtain ⟨v, ws, rfl⟩ := r.tl.some
  have := r.tl.tl.none; subst this
  exact h s u v d r.hd r.tl.hd
theorem ol3 {f : List Value → Sem α} {a b c : AV} (h : ∀ s u v x, Den C D s → Rv s.heap u a → Rv s.heap v b → Rv s.heap x c → wpAny (model prog w) C.A (f [u, v, x]) (Po C R Q s) E s) : OL prog w C E R f [a, b, c] D Q := fun s us d r => by
  obtain ⟨u, vs, rfl⟩ := r.some
  obtain ⟨v, ws, rfl⟩ := r.tl.some
  obtain ⟨x, zs, rfl⟩ := r.tl.tl.some
  have := r.tl.tl.tl.none; subst this
  exact h s u v x d r.hd r.tl.hd r.tl.tl.hd
theorem olv1 {f : List Value → Sem α} {x : Value} (h : ∀ s, Den C D s → wpAny (model prog w) C.A (f [x]) (Po C R Q s) E s) : OL prog w C E R f [.v x] D Q := ol1 fun s u d r => r.v_ ▸ h s d
theorem olv2 {f : List Value → Sem α} {x : Value} {b : AV} (h : ∀ s v, Den C D s → Rv s.heap v b → wpAny (model prog w) C.A (f [x, v]) (Po C R Q s) E s) : OL prog w C E R f [.v x, b] D Q := ol2 fun s u v d r q => r.v_ ▸ h s v d q
theorem olv3 {f : List Value → Sem α} {x : Value} {b c : AV} (h : ∀ s v y, Den C D s → Rv s.heap v b → Rv s.heap y c → wpAny (model prog w) C.A (f [x, v, y]) (Po C R Q s) E s) : OL prog w C E R f [.v x, b, c] D Q := ol3 fun s u v y d r q z => r.v_ ▸ h s v y d q z
end
/- global names -/
theorem e_glob {x : Str} {v : Value} {a : AV} {Q : AV → DS → Prop} (e : nsIn (KK w) mainGlobals x = some (some v)) (r : Rv C.h₁ v a) (h : Q a D)
    (hk : env.scope.kind = .function := by rfl) (hx : env.kindOf x = some .globalImplicit := by rfl) (hd : (x == ("__debug__" : Str)) = false := by decide) (hg : env.globals = mainGlobals := by rfl) :
    EV prog w C E (eval (.Name x pos) env) D Q := fun s d => by
  obtain ⟨mg, G⟩ := d.bs.g
  exact Calls.Name_function_global hk hx (Calls.loadGlobal_global (env := env) (by rw [hg]; exact G) (mg_of d.K G e) (.here d (r.le (.of_keeps d.base)) h)) hd
theorem e_builtin {x : Str} {v : Value} {Q : AV → DS → Prop} (e : nsIn (KK w) mainGlobals x = some none) (hv : bootBuiltins x = some v) (hn : x ≠ "__name__") (h : Q (.v v) D)
    (hk : env.scope.kind = .function := by rfl) (hx : env.kindOf x = some .globalImplicit := by rfl) (hd : (x == ("__debug__" : Str)) = false := by decide) (hg : env.globals = mainGlobals := by rfl)
    (hb : env.builtins = builtinsNs := by rfl) : EV prog w C E (eval (.Name x pos) env) D Q := fun s d => by
  obtain ⟨mg, G⟩ := d.bs.g
  obtain ⟨mb, B, z⟩ := d.bs.b
  exact Calls.Name_function_global hk hx (Calls.loadGlobal_builtin (env := env) (by rw [hg]; exact G) (mg_none_of d.K G e) (by rw [hb]; exact B) ((z x hn).trans hv) (.here d (.v _) h)) hd
/- arithmetic -/
theorem o_add {a b : Int} {Q : AV → DS → Prop} (h : Q (.d (.int (a + b))) D) : O2 prog w C E Rv (binaryOp .Add) (.d (.int a)) (.d (.int b)) D Q := o2ii fun s _ _ d => by
  exact PyProof.Rows.add_int (.intro ⟨.toks _ _, d.toks _⟩ (.d (.int _ _)) h)
theorem o_iadd {a b : Int} {Q : AV → DS → Prop} (h : Q (.d (.int (a + b))) D) : O2 prog w C E Rv (inplaceOp .Add) (.d (.int a)) (.d (.int b)) D Q := o2ii fun s _ _ d => by
  exact PyProof.Rows.iadd_int (.intro ⟨.toks _ _, d.toks _⟩ (.d (.int _ _)) h)
theorem o_mul {a b : Int} {Q : AV → DS → Prop} (hb : Builtin.Int.intBits b ≤ 64) (h : Q (.d (.int (a * b))) D) : O2 prog w C E Rv (binaryOp .Mult) (.d (.int a)) (.d (.int b)) D Q := o2ii fun s _ _ d => by
  exact PyProof.Rows.mul_int (.intro ⟨.toks _ _, d.toks _⟩ (.d (.int _ _)) h) (IntMulOk.of_right hb)
theorem o_mod {a b : Int} {Q : AV → DS → Prop} (hb : b ≠ 0) (h : Q (.d (.int (a.fmod b))) D) : O2 prog w C E Rv (binaryOp .Mod) (.d (.int a)) (.d (.int b)) D Q := o2ii fun s _ _ d => by
  exact PyProof.Rows.mod_int' hb (.intro ⟨.toks _ _, d.toks _⟩ (.d (.int _ _)) h)
theorem o_idiv {a b : Int} {Q : AV → DS → Prop} (hb : b ≠ 0) (hp : ∀ a, Builtin.divisionGoesByPylong a b = false) (h : Q (.d (.int (a.fdiv b))) D) : O2 prog w C E Rv (inplaceOp .FloorDiv) (.d (.int a)) (.d (.int b)) D Q := o2ii fun s _ _ d => by
  exact PyProof.Rows.ifloordiv_int hb (.intro ⟨.toks _ _, d.toks _⟩ (.d (.int _ _)) h) (.inl (hp a))
theorem o_neg {a : Int} {Q : AV → DS → Prop} (h : Q (.d (.int (-a))) D) : O1 prog w C E Rv (unaryOp .USub) (.d (.int a)) D Q := fun s u d r => by
  obtain ⟨_, rfl⟩ := r.int_
  exact PyProof.Rows.neg_int (.intro ⟨.toks _ _, d.toks _⟩ (.d (.int _ _)) h)
theorem o_lt {a b : Int} {Q : AV → DS → Prop} (h : Q (.d (.bool (decide (a < b)))) D) : O2 prog w C E Rv (compareOp .Lt) (.d (.int a)) (.d (.int b)) D Q := o2ii fun s _ _ d => by
  exact PyProof.Rows.lt_int (.here d (.d (.bool _)) h)
theorem o_le {a b : Int} {Q : AV → DS → Prop} (h : Q (.d (.bool (decide (a ≤ b)))) D) : O2 prog w C E Rv (compareOp .LtE) (.d (.int a)) (.d (.int b)) D Q := o2ii fun s _ _ d => by
  exact PyProof.Rows.le_int (.here d (.d (.bool _)) h)
theorem o_gt {a b : Int} {Q : AV → DS → Prop} (h : Q (.d (.bool (decide (b < a)))) D) : O2 prog w C E Rv (compareOp .Gt) (.d (.int a)) (.d (.int b)) D Q := o2ii fun s _ _ d => by
  exact PyProof.Rows.gt_int (.here d (.d (.bool _)) h)
theorem o_ge {a b : Int} {Q : AV → DS → Prop} (h : Q (.d (.bool (decide (b ≤ a)))) D) : O2 prog w C E Rv (compareOp .GtE) (.d (.int a)) (.d (.int b)) D Q := o2ii fun s _ _ d => by
  exact PyProof.Rows.ge_int (.here d (.d (.bool _)) h)
/- data compared -/
theorem o_eq {x y : PyData} {Q : AV → DS → Prop} (hx : SeqAt.shaped x = true) (hy : SeqAt.shaped y = true) (h : Q (.d (.bool (x.eqv y))) D) : O2 prog w C E Rv (compareOp .Eq) (.d x) (.d y) D Q := fun s u v d r q =>
  SeqAt.compareEq_shaped r.reads_ q.reads_ hx hy C.eqRoom (.here d (.d (.bool _)) h)
theorem o_ne {x y : PyData} {Q : AV → DS → Prop} (hx : SeqAt.shaped x = true) (hy : SeqAt.shaped y = true) (h : Q (.d (.bool (!x.eqv y))) D) : O2 prog w C E Rv (compareOp .NotEq) (.d x) (.d y) D Q := fun s u v d r q =>
  SeqAt.compareNe_shaped r.reads_ q.reads_ hx hy C.eqRoom (.here d (.d (.bool _)) h)
noncomputable def isNoneD : PyData → Bool
  | .none => true
  | _ => false
theorem o_isNone {x : PyData} {Q : AV → DS → Prop} (h : Q (.d (.bool (isNoneD x))) D) : O2 prog w C E Rv (compareOp .Is) (.d x) (.d .none) D Q := fun s u v d r q => by
  rw [q.none_]
  have e : ∀ {as : List Addr}, Reads s.heap u x as → (u == Value.none) = isNoneD x := fun r => by cases r <;> rfl
  replace e := e r.data
  exact is_none (by rw [e]; exact .here d (.d (.bool _)) h)
theorem t_bool {b : Bool} {Q : Bool → DS → Prop} (h : Q b D) : O1 prog w C E Rb truthy (.d (.bool b)) D Q := fun s u d r => by
  rw [r.bool_]; exact wpAny_truthy_bool (.here d rfl h)
/- a list of the store -/
theorem Den.listAt {i : Nat} {a : Addr} {l : List AV} {s : Shared} (d : Den C D s) (hi : D.rs[i]? = some (one prog w a (.list l))) : ∃ vs, s.heap.PlainList a vs ∧ RvL s.heap vs.toList l :=
  let ⟨vs, n, e, r⟩ := (d.regs _ (mem_of_get hi) : RO prog w s.heap a (.list l)); ⟨vs, ⟨n, e⟩, r⟩
theorem RvL.strs {h : Heap} {vs : List Value} {xs : List Str} (r : RvL h vs (xs.map fun x => .d (.str x))) : PyProof.Rows.StrsAre vs xs := by
  induction xs generalizing vs with
  | nil => rw [r.none]; exact .nil
  | cons x xs ih =>
    obtain ⟨v, us, e⟩ := r.some
    subst e
    obtain ⟨t, e⟩ := r.hd.str_
    subst e
    exact .cons _ _ (ih r.tl)
theorem o_inList {i : Nat} {a : Addr} {x : Str} {xs : List Str} {Q : AV → DS → Prop} (hi : D.rs[i]? = some (one prog w a (.list (xs.map fun x => .d (.str x))))) (h : Q (.d (.bool (xs.any fun y => y == x))) D) :
    O2 prog w C E Rv (compareOp .In) (.d (.str x)) (.v (.ref a)) D Q := fun s u v d r q => by
  obtain ⟨_, rfl⟩ := r.str_
  obtain rfl := q.v_
  obtain ⟨vs, hl, hr⟩ := d.listAt hi
  exact PyProof.Rows.in_list_strs (vs := vs.toList) (by rw [Array.toArray_toList]; exact hl.isList) hr.strs (.here d (.d (.bool _)) h)
theorem o_inTuple {x : Str} {xs : List Str} {Q : AV → DS → Prop} (h : Q (.d (.bool (xs.any fun y => y == x))) D) :
    O2 prog w C E Rv (compareOp .In) (.d (.str x)) (.d (.tuple (xs.map .str))) D Q := fun s u v d r q => by
  obtain ⟨_, rfl⟩ := r.str_
  obtain ⟨a, o, vs, n, rfl, ho, hc, hd, hr⟩ := q.tupD
  exact PyProof.Rows.in_tuple_strs ⟨_, ho, hc, _, hd⟩ (RvL.strs (by have := RvL.of_reads hr rfl; rwa [List.map_map] at this)) (.here d (.d (.bool _)) h)
/- items -/
theorem e_sub {v sl : Expr} {Q : AV → DS → Prop} (h : EV prog w C E (eval v env) D (K2 prog w C E (eval sl env) Rv (PyProof.Rows.subscriptTail v sl) Q)) :
    EV prog w C E (eval (.Subscript v sl pos) env) D Q := fun s d => PyProof.Rows.Subscript_ (seq2 d h)
noncomputable abbrev PlainSub (sl : Expr) : Prop := ∀ o k u, subscripted sl false o (.int k u) = operate [o, .int k u] (getItem o (.int k u))
theorem seqIndex_nat {k n : Nat} (h : k < n) : seqIndex? (k : Int) n = some k := by
  unfold seqIndex?
  have : ¬ ((k : Int) < 0) := by omega
  simp [this]
  omega
theorem readsAll_get {h : Heap} {vs : List Value} {xs : List PyData} (r : ReadsAll h vs xs []) {i : Nat} {x : PyData} (e : xs[i]? = some x) : ∃ v, vs[i]? = some v ∧ Reads h v x [] :=
  let ⟨v, h1, h2⟩ := (RvL.of_reads r rfl).get (i := i) (a := .d x) (by rw [List.getElem?_map, e]; rfl)
  ⟨v, h1, h2.data⟩
theorem i_tuple {v sl : Expr} {k : Nat} {xs : List PyData} {x : PyData} {Q : AV → DS → Prop} (hx : xs[k]? = some x) (h : Q (.d x) D) (hk : k < 1000 := by decide) (hs : PlainSub sl := by intro _ _ _; rfl) :
    O2 prog w C E Rv (PyProof.Rows.subscriptTail v sl) (.d (.tuple xs)) (.d (.int k)) D Q := fun s u y d r q => by
  obtain ⟨t, rfl⟩ := q.int_
  obtain ⟨a, o, vs, n, rfl, ho, hc, hd, hr⟩ := r.tupD
  obtain ⟨z, h1, h2⟩ := readsAll_get hr hx
  have lt : k < vs.size := by simpa using (List.getElem?_eq_some_iff.mp h1).1
  refine PyProof.Rows.tail_any (T := "tuple") ⟨_, ho, hc⟩ PyProof.Rows.slot_tuple_getitem.lookup (PyProof.Rows.getItem_tuple (j := k) ⟨_, ho, hc, _, hd⟩ (by omega) (by omega) (seqIndex_nat lt) (x := z) (by simpa using h1) (.here d (.d h2) h)) (hs _ _ _)
theorem i_tup {v sl : Expr} {k : Nat} {xs : List AV} {x : AV} {Q : AV → DS → Prop} (hx : xs[k]? = some x) (h : Q x D) (hk : k < 1000 := by decide) (hs : PlainSub sl := by intro _ _ _; rfl) :
    O2 prog w C E Rv (PyProof.Rows.subscriptTail v sl) (.tup xs) (.d (.int k)) D Q := fun s u y d r q => by
  obtain ⟨t, rfl⟩ := q.int_
  obtain ⟨a, o, vs, n, rfl, ho, hc, hd, hr⟩ := r.tupA
  obtain ⟨z, h1, h2⟩ := hr.get hx
  have lt : k < vs.size := by simpa using (List.getElem?_eq_some_iff.mp h1).1
  refine PyProof.Rows.tail_any (T := "tuple") ⟨_, ho, hc⟩ PyProof.Rows.slot_tuple_getitem.lookup (PyProof.Rows.getItem_tuple (j := k) ⟨_, ho, hc, _, hd⟩ (by omega) (by omega) (seqIndex_nat lt) (x := z) (by simpa using h1) (.here d h2 h)) (hs _ _ _)
theorem i_list {v sl : Expr} {i : Nat} {a : Addr} {k : Int} {l : List AV} {x : AV} {Q : AV → DS → Prop} (hi : D.rs[i]? = some (one prog w a (.list l))) (h0 : 0 ≤ k) (h1 : k < 2 ^ 63) (hx : l[k.toNat]? = some x) (h : Q x D)
    (hs : PlainSub sl := by intro _ _ _; rfl) : O2 prog w C E Rv (PyProof.Rows.subscriptTail v sl) (.v (.ref a)) (.d (.int k)) D Q := o2vi fun s t d => by
  obtain ⟨vs, hl, hr⟩ := d.listAt hi
  obtain ⟨z, z1, z2⟩ := hr.get hx
  exact PyProof.Rows.tail_any (T := "list") hl.isList.typeIs slot_list_getitem.lookup (wpAny_getItem_list hl.isList h0 h1 (x := z) (by simpa using z1) (.here d z2 h)) (hs _ _ _)
end
end Mine
end
section
open PySem PySem.W
set_option maxRecDepth 100000
namespace Mine
/-- what a called def leaves -/
noncomputable def FnPost (rs : List Reg) (Q : AV → List Reg → List Reg → Prop) (s : Shared) (v : Value) (s' : Shared) : Prop :=
  Nxt s s' ∧ s.heap.objs.size ≤ s'.heap.objs.size ∧ (∀ a o, a ∉ feet rs → s.heap.get? a = some o → s'.heap.get? a = some o) ∧
  ∃ av rs' nw, Rv s'.heap v av ∧ (∀ r ∈ rs' ++ nw, r.P s'.heap) ∧ rs'.map Reg.foot = rs.map Reg.foot ∧ (feet nw).Nodup ∧ (∀ a ∈ feet nw, s.heap.objs.size ≤ a) ∧ Q av rs' nw
/-- the state at a call -/
structure Pre {w : World} (h₁ : Heap) (A : Around) (n : Nat) (rs : List Reg) (args : List AV) (s : Shared) (vals : List Value) : Prop where
  bs : Bs w h₁
  handled : A.handled = none
  depth : A.depth + n ≤ 900
  units : A.units + 20 * n ≤ 9000
  big : h₁.objs.size ≤ s.heap.objs.size
  base : ∀ a o, h₁.get? a = some o → s.heap.get? a = some o
  regs : ∀ r ∈ rs, r.P s.heap
  nodup : (feet rs).Nodup
  fresh : ∀ a ∈ feet rs, h₁.objs.size ≤ a
  vals : RvL s.heap vals args
/-- a contract of a def that raises nothing -/
noncomputable def Fn (prog : Program) (w : World) (f : Value) (n : Nat) (args : List AV) (rs : List Reg) (Q : AV → List Reg → List Reg → Prop) : Prop :=
  ∀ (h₁ : Heap) (A : Around) (s : Shared) (vals : List Value), Pre (w := w) h₁ A n rs args s vals →
    codeAny (model prog w) A (.call f ⟨vals, []⟩) (fun r s' => match r with | .ok (.ret v) => FnPost rs Q s v s' | _ => False) s
/-- the same, for a heap at the law's call of which H holds -/
noncomputable def FnH (prog : Program) (w : World) (H : Heap → Prop) (f : Value) (n : Nat) (args : List AV) (rs : List Reg) (Q : AV → List Reg → List Reg → Prop) : Prop :=
  ∀ (h₁ : Heap) (A : Around) (s : Shared) (vals : List Value), H h₁ → Pre (w := w) h₁ A n rs args s vals →
    codeAny (model prog w) A (.call f ⟨vals, []⟩) (fun r s' => match r with | .ok (.ret v) => FnPost rs Q s v s' | _ => False) s
theorem FnH.fn {prog : Program} {w : World} {f : Value} {n : Nat} {args : List AV} {rs : List Reg} {Q : AV → List Reg → List Reg → Prop} (h : FnH prog w (fun _ => True) f n args rs Q) : Fn prog w f n args rs Q := fun h₁ A s vals p => h h₁ A s vals trivial p
theorem Fn.fnH {prog : Program} {w : World} {H : Heap → Prop} {f : Value} {n : Nat} {args : List AV} {rs : List Reg} {Q : AV → List Reg → List Reg → Prop} (h : Fn prog w f n args rs Q) : FnH prog w H f n args rs Q := fun h₁ A s vals _ p => h h₁ A s vals p
noncomputable def setAll : List Reg → List Nat → List Reg → List Reg
  | rs, i :: is, r :: r' => setAll (rs.set i r) is r'
  | rs, _, _ => rs
theorem setAll_get : ∀ (is : List Nat) (rs rs' : List Reg) (j : Nat) (x : Reg), is.length = rs'.length → (setAll rs is rs')[j]? = some x → x ∈ rs' ∨ (j ∉ is ∧ rs[j]? = some x)
  | [], rs, rs', j, x, _, h => by
    have : setAll rs [] rs' = rs := by cases rs' <;> rfl
    rw [this] at h; exact .inr ⟨by simp, h⟩
  | i :: is, rs, [], j, x, z, h => by simp at z
  | i :: is, rs, r :: rs', j, x, z, h => by
    rcases setAll_get is (rs.set i r) rs' j x (by simpa using z) h with q | ⟨q1, q2⟩
    · exact .inl (.tail _ q)
    · rw [List.getElem?_set] at q2
      split at q2
      · split at q2
        · cases q2; exact .inl (.head _)
        · cases q2
      · rename_i ne; exact .inr ⟨by simp [q1]; exact fun e => ne e.symm, q2⟩
inductive At (rs : List Reg) : List Nat → List Reg → Prop
  | nil : At rs [] []
  | cons {i : Nat} {r : Reg} {is : List Nat} {l : List Reg} : rs[i]? = some r → At rs is l → At rs (i :: is) (r :: l)
noncomputable def pickAt (rs : List Reg) (is : List Nat) : List (Option Reg) := is.map (rs[·]?)
theorem At.of {rs : List Reg} : ∀ {is : List Nat} {l : List Reg}, pickAt rs is = l.map some → At rs is l := by
  intro is
  induction is with
  | nil => intro l h; rw [List.map_eq_nil_iff.mp h.symm]; exact .nil
  | cons i is ih =>
    intro l h
    cases l with
    | nil => cases h
    | cons r l => exact .cons (List.cons.inj h).1 (ih (List.cons.inj h).2)
theorem At.mem {rs : List Reg} {is : List Nat} {l : List Reg} (h : At rs is l) : ∀ r ∈ l, r ∈ rs := by
  induction h with
  | nil => intro _ h; cases h
  | cons a _ ih =>
    intro r hr
    rcases List.mem_cons.mp hr with rfl | hr
    · exact mem_of_get a
    · exact ih r hr
theorem At.pos {rs : List Reg} {is : List Nat} {l : List Reg} (h : At rs is l) : ∀ r ∈ l, ∃ i ∈ is, rs[i]? = some r := by
  induction h with
  | nil => intro _ h; cases h
  | cons a _ ih =>
    intro r hr
    rcases List.mem_cons.mp hr with rfl | hr
    · exact ⟨_, .head _, a⟩
    · obtain ⟨i, h1, h2⟩ := ih r hr; exact ⟨i, .tail _ h1, h2⟩
theorem feetOf_get {rs : List Reg} {i : Nat} {r : Reg} {fs : List (List Addr)} (h : rs.map Reg.foot = fs) (e : rs[i]? = some r) : fs[i]? = some r.foot := by rw [← h]; simp [e]
theorem map_foot_set {rs : List Reg} {i : Nat} {r r' : Reg} (hi : rs[i]? = some r) (hf : r'.foot = r.foot) : (rs.set i r').map Reg.foot = rs.map Reg.foot := by
  rw [List.map_set]
  apply List.ext_getElem?
  intro j
  rw [List.getElem?_set]
  split
  · rename_i q; subst q
    obtain ⟨h1, h2⟩ := List.getElem?_eq_some_iff.mp hi
    simp [hf, h1, h2]
  · rfl
theorem feet_of_map {a b : List Reg} (h : a.map Reg.foot = b.map Reg.foot) : feet a = feet b := by
  unfold feet; rw [List.flatMap_def, List.flatMap_def, h]
theorem setAll_foot : ∀ (is : List Nat) (rs l rs' : List Reg), (l.map Reg.foot).length = is.length → (∀ (k i : Nat) (f : List Addr), is[k]? = some i → (l.map Reg.foot)[k]? = some f → (rs.map Reg.foot)[i]? = some f) → rs'.map Reg.foot = l.map Reg.foot →
    (setAll rs is rs').map Reg.foot = rs.map Reg.foot
  | [], rs, l, rs', _, _, _ => by cases rs' <;> rfl
  | i :: is, rs, l, [], hz, _, e => by
    rw [← e] at hz; simp at hz
  | i :: is, rs, [], r :: rs', hz, _, e => by simp at e
  | i :: is, rs, x :: l, r :: rs', hz, h, e => by
    have e' : r.foot = x.foot ∧ rs'.map Reg.foot = l.map Reg.foot := by simpa using e
    have h0 := h 0 i x.foot rfl rfl
    rw [List.getElem?_map] at h0
    obtain ⟨y, hy, hyf⟩ := Option.map_eq_some_iff.mp h0
    have m := map_foot_set (r' := r) hy (e'.1.trans hyf.symm)
    have := setAll_foot is (rs.set i r) l rs' (by simpa using hz) (fun k j f a b => by rw [m]; exact h (k + 1) j f (by simpa using a) (by simpa using b)) e'.2
    show (setAll (rs.set i r) is rs').map Reg.foot = _
    rw [this, m]
theorem At.len {rs : List Reg} {is : List Nat} {l : List Reg} (h : At rs is l) : is.length = l.length := by
  induction h with
  | nil => rfl
  | cons _ _ ih => simp [ih]
theorem At.foots {rs : List Reg} {is : List Nat} {l : List Reg} (h : At rs is l) : ∀ (k i : Nat) (f : List Addr), is[k]? = some i → (l.map Reg.foot)[k]? = some f → (rs.map Reg.foot)[i]? = some f := by
  induction h with
  | nil => intro k i f a; simp at a
  | cons a _ ih =>
    intro k i f p q
    cases k with
    | zero => simp at p q; subst p; subst q; simp [a]
    | succ k => exact ih k i f (by simpa using p) (by simpa using q)
theorem le_lv {n m k : Nat} (h : m = k) (e : Nat.ble n k = true) : n ≤ m := h ▸ Nat.le_of_ble_eq_true e
/-- what is wanted behind a call, by its parts -/
noncomputable abbrev Aft (D : DS) (is : List Nat) (Q : AV → DS → Prop) (av : AV) (rs' nw : List Reg) : Prop := Q av ⟨D.m, setAll D.rs is rs' ++ nw⟩
section
variable {α β γ : Type}
theorem w_eq {G : α → Prop} {a : α} (h : G a) : ∀ x, x = a → G x := by rintro _ rfl; exact h
theorem w_eq' {G : α → Prop} {a : α} {P : Prop} (h : P → G a) : ∀ x, P ∧ x = a → G x := by rintro _ ⟨p, rfl⟩; exact h p
theorem w_eqe {δ : Type} {G : α → Prop} {a : δ → α} (h : ∀ d, G (a d)) : ∀ x, (∃ d, x = a d) → G x := by rintro _ ⟨d, rfl⟩; exact h d
theorem w_x3 {G : α → β → γ → Prop} {a : α} {b : β} {c : γ} (h : G a b c) : ∀ x y z, (x = a ∧ y = b ∧ z = c) → G x y z := by rintro _ _ _ ⟨rfl, rfl, rfl⟩; exact h
theorem w_x3' {G : α → β → γ → Prop} {a : α} {b : β} {c : γ} {P : Prop} (h : P → G a b c) : ∀ x y z, (P ∧ x = a ∧ y = b ∧ z = c) → G x y z := by rintro _ _ _ ⟨p, rfl, rfl, rfl⟩; exact h p
theorem w_x3e {δ : Type} {G : α → β → γ → Prop} {a : δ → α} {b : δ → β} {c : δ → γ} (h : ∀ d, G (a d) (b d) (c d)) : ∀ x y z, (∃ d, x = a d ∧ y = b d ∧ z = c d) → G x y z := by rintro _ _ _ ⟨d, rfl, rfl, rfl⟩; exact h d
end
section
variable {prog : Program} {w : World} {C : Cx w} {E : Value → Shared → Prop} {D : DS} {env : Env} {pos : Pos}
theorem Fn.mono {f : Value} {n n' : Nat} {args : List AV} {rs : List Reg} {Q Q' : AV → List Reg → List Reg → Prop} (h : Fn prog w f n args rs Q) (hn : n ≤ n') (k : ∀ a r r', Q a r r' → Q' a r r') : Fn prog w f n' args rs Q' :=
  fun h₁ A s vals p => codeAny_mono (h h₁ A s vals ⟨p.bs, p.handled, by have := p.depth; omega, by have := p.units; omega, p.big, p.base, p.regs, p.nodup, p.fresh, p.vals⟩) (fun r s' q => by
    cases r with
    | error e => exact q
    | ok fl => cases fl with
      | ret v => obtain ⟨a, b, c, av, rs', nw, d, e, f, g, i, q⟩ := q; exact ⟨a, b, c, av, rs', nw, d, e, f, g, i, k _ _ _ q⟩
      | _ => exact q)
/-- a call of a def by its contract, as code -/
theorem Den.callPost {s : Shared} (d : Den C D s) {is : List Nat} {rs : List Reg} {Q₀ : AV → List Reg → List Reg → Prop} {Q : AV → DS → Prop} (hi : At D.rs is rs) (h : ∀ av rs' nw, Q₀ av rs' nw → Aft D is Q av rs' nw)
    {v : Value} {s' : Shared} (p : FnPost rs Q₀ s v s') : Po C Rv Q s v s' := by
  obtain ⟨n, hz, hk, av, rs', nw, hv, hr, hf, hnn, hnf, q⟩ := p
  obtain ⟨-, h', tk, rfl⟩ := n
  have sub : ∀ a ∈ feet rs, a ∈ feet D.rs := fun a ha => let ⟨r, h1, h2⟩ := mem_feet.mp ha; mem_feet.mpr ⟨r, hi.mem r h1, h2⟩
  have len : is.length = rs'.length := by rw [hi.len, ← List.length_map (f := Reg.foot) (as := rs), ← hf, List.length_map]
  have ff : feet (setAll D.rs is rs') = feet D.rs := feet_of_map (setAll_foot is D.rs rs rs' (by rw [List.length_map, hi.len]) hi.foots hf)
  have le : Le s.heap h' := fun a o e t => hk a o (fun z => by
    obtain ⟨o', e', t'⟩ := d.notTp (.tail _ (sub a z))
    rw [e] at e'; cases e'; exact t' t) e
  have nL : C.L ∉ feet rs := fun z => (List.nodup_cons.mp d.nodup).1 (sub _ z)
  refine Po.intro (D' := ⟨D.m, setAll D.rs is rs' ++ nw⟩) (d.step (feet rs) (fun a ha => .tail _ (sub a ha)) hk (d.ns.mono le fun o e => hk _ _ nL e) (fun x hx => ?_) ?_ fun a ha => ?_) hv (h av rs' nw q)
  · rcases List.mem_append.mp hx with hx | hx
    · obtain ⟨j, hj⟩ := List.mem_iff_getElem?.mp hx
      rcases setAll_get is D.rs rs' j x len hj with z | ⟨z1, z2⟩
      · exact hr x (List.mem_append_left _ z)
      · refine x.loc le (fun a ha o e => hk a o (fun z => ?_) e) (d.regs x (mem_of_get z2))
        obtain ⟨r, h1, h2⟩ := mem_feet.mp z
        obtain ⟨i, i1, i2⟩ := hi.pos r h1
        exact feet_apart z2 d.rNodup i r i2 (fun e => z1 (e ▸ i1)) a ha h2
    · exact hr x (List.mem_append_right _ hx)
  · show (C.L :: feet (setAll D.rs is rs' ++ nw)).Nodup
    rw [feet_append, ff, ← List.cons_append, List.nodup_append]
    refine ⟨d.nodup, hnn, fun a ha b hb e => ?_⟩
    subst e
    exact absurd (d.notTp ha).lt (Nat.not_lt.mpr (hnf a hb))
  · have ha : a ∈ feet (setAll D.rs is rs' ++ nw) := ha
    rw [feet_append, ff] at ha
    rcases List.mem_append.mp ha with ha | ha
    · exact .inl (.tail _ ha)
    · exact .inr (hnf a ha)
theorem Den.pre {s : Shared} (d : Den C D s) {is : List Nat} {rs : List Reg} (hi : At D.rs is rs) (hd : is.Nodup) {n : Nat} (hn : n ≤ C.lv) {A : Around} (hh : A.handled = none) (h1 : A.depth ≤ C.A.depth) (h2 : A.units ≤ C.A.units) {args : List AV} {vals : List Value}
    (hv : RvL s.heap vals args) : Pre (w := w) C.h₁ A n rs args s vals := by
  refine ⟨C.bs, hh, by have := C.depth; omega, by have := C.units; omega, Nat.le_trans C.big d.size, d.base, fun r hr => d.regs r (hi.mem r hr), ?_, fun a ha => ?_, hv⟩
  · clear hv
    have key : ∀ {is : List Nat} {rs : List Reg}, At D.rs is rs → is.Nodup → (feet rs).Nodup := by
      intro is rs hi
      induction hi with
      | nil => intro _; exact List.nodup_nil
      | @cons i r is l a t ih =>
        intro hd
        rw [feet_cons, List.nodup_append]
        have hd' := List.nodup_cons.mp hd
        refine ⟨?_, ih hd'.2, fun x hx y hy e => ?_⟩
        · have : r.foot.Sublist (feet D.rs) := by
            obtain ⟨l1, l2, e⟩ := List.append_of_mem (mem_of_get a)
            rw [e, feet_append, feet_cons]
            exact (List.sublist_append_left _ _).trans (List.sublist_append_right _ _)
          exact this.nodup d.rNodup
        · subst e
          obtain ⟨r', h1, h2⟩ := mem_feet.mp hy
          obtain ⟨j, j1, j2⟩ := t.pos r' h1
          exact feet_apart a d.rNodup j r' j2 (fun e => hd'.1 (e ▸ j1)) x hx h2
    exact key hi hd
  · obtain ⟨r, h1, h2⟩ := mem_feet.mp ha
    exact (d.fresh a (.tail _ (mem_feet.mpr ⟨r, hi.mem r h1, h2⟩))).1
theorem ol_fnH {H : Heap → Prop} {f : Value} {n : Nat} {l : List AV} {rs : List Reg} {Q₀ : AV → List Reg → List Reg → Prop} {Q : AV → DS → Prop} (hf : FnH prog w H f n l rs Q₀) (hH : H C.h₁) (is : List Nat) (hi : At D.rs is rs) (h : ∀ av rs' nw, Q₀ av rs' nw → Aft D is Q av rs' nw)
    (hd : is.Nodup := by decide) (hn : n ≤ C.lv := by exact le_lv (by assumption) rfl) : OL prog w C E Rv (fun vs => call f vs) l D Q := fun s vals d hv => by
  refine wpAny_call (codeAny_mono (hf C.h₁ C.A s vals hH (d.pre hi hd hn C.handled (Nat.le_refl _) (Nat.le_refl _) hv)) fun r s' q => ?_)
  cases r with
  | error e => exact q.elim
  | ok fl => cases fl with
    | ret v => exact d.callPost hi h q
    | _ => exact q
theorem ol_fn {f : Value} {n : Nat} {l : List AV} {rs : List Reg} {Q₀ : AV → List Reg → List Reg → Prop} {Q : AV → DS → Prop} (hf : Fn prog w f n l rs Q₀) (is : List Nat) (hi : At D.rs is rs) (h : ∀ av rs' nw, Q₀ av rs' nw → Aft D is Q av rs' nw)
    (hd : is.Nodup := by decide) (hn : n ≤ C.lv := by exact le_lv (by assumption) rfl) : OL prog w C E Rv (fun vs => call f vs) l D Q := fun s vals d hv => by
  refine wpAny_call (codeAny_mono (hf C.h₁ C.A s vals (d.pre hi hd hn C.handled (Nat.le_refl _) (Nat.le_refl _) hv)) fun r s' q => ?_)
  cases r with
  | error e => exact q.elim
  | ok fl => cases fl with
    | ret v => exact d.callPost hi h q
    | _ => exact q
/- the callee of a call: what keeps it -/
noncomputable def Kp (w : World) (f : Value) : Prop := ∀ (M : Model) (h : Heap), (KK w).In h → ∃ k, (k = Keeper.frame ∨ k = Keeper.machine ∨ k = Keeper.boundFrame) ∧ Looks M h (keeperOf f) k
theorem kp_K {f : Value} (h : keepIn (KK w) f = true) : Kp w f := fun _ => keeps_K h
theorem kp_builtin {id : String} : Kp w (.builtin id) := fun _ _ _ => ⟨.machine, .inr (.inl rfl), fun _ _ _ _ _ q => wpAny_pure q⟩
theorem kp_type {id : String} : Kp w (.type id) := fun _ _ _ => ⟨.machine, .inr (.inl rfl), fun _ _ _ _ _ q => wpAny_pure q⟩
theorem args_plain {es : List Expr} (he : (backTo pos (starEach es env)).all (fun x => !x.1) = true) : ((backTo pos (starEach es env)).any (·.1) || ([] : List (Option Str × Sem Value)).any (·.1.isNone)) = false := by
  have : (backTo pos (starEach es env)).any (·.1) = false := by
    rw [List.any_eq_false]; intro x hx
    have := List.all_eq_true.mp he x hx
    simpa using this
  rw [this]; rfl
theorem callWith_gv {f : Value} {first : List Value} {es : List Expr} {s : Shared} {fa : List AV} {Q : AV → DS → Prop} (d : Den C D s) (hk : Kp w f) (hf : RvL s.heap first fa)
    (h : LV prog w C E (spliced (backTo pos (starEach es env))) D (fun l D₁ => OL prog w C E Rv (fun vs => call f vs) (fa ++ l) D₁ Q)) (he : (backTo pos (starEach es env)).all (fun x => !x.1) = true := by rfl) :
    wpAny (model prog w) C.A (callWith pos f first (backTo pos (starEach es env)) []) (Po C Rv Q s) E s := by
  refine callWith_of (args_plain he) (fun h X => hk _ h X) ?_
  have go : wpAny (model prog w) C.A (spliced (backTo pos (starEach es env))) (fun vs s₁ => (KK w).In s₁.heap ∧ wpAny (model prog w) C.A (call f (first ++ vs) []) (Po C Rv Q s) E s₁) E s :=
    wpAny_mono (h s d) (fun vs s₁ p => by
      obtain ⟨n, l, D₁, d₁, r, q⟩ := p
      exact ⟨d₁.K, wpAny_mono (q s₁ _ d₁ ((hf.le n.1).append r)) (fun _ _ z => z.after n) fun _ _ x => x⟩) fun _ _ x => x
  cases hb : backTo pos (starEach es env) with
  | nil =>
    rw [hb] at go
    exact fun Γ p hΓ => PyProof.Rows.evalArgs_nil3 (show _ from go Γ p hΓ) Γ p hΓ
  | cons x rest =>
    obtain ⟨b, t⟩ := x
    have hx : b = false := by rw [hb] at he; simp at he; exact he.1
    subst hx
    rw [hb] at go
    exact Calls.evalArgs_plain go
end
end Mine
end
section
open PySem PySem.W
set_option maxRecDepth 100000
namespace Mine
section
variable {prog : Program} {w : World} {C : Cx w} {E : Value → Shared → Prop} {D : DS} {env : Env} {pos : Pos}
inductive CallK (prog : Program) (w : World) (C : Cx w) (E : Value → Shared → Prop) (t : Sem (List Value)) (Q : AV → DS → Prop) (fa : AV) (D : DS) : Prop
  | mk (f : Value) (e : fa = .v f) (kp : Kp w f) (q : LV prog w C E t D (PL prog w C E Rv (fun vs => call f vs) Q)) : CallK prog w C E t Q fa D
theorem e_call {x : Str} {p : Pos} {es : List Expr} {Q : AV → DS → Prop}
    (h : EV prog w C E (eval (.Name x p) env) D (CallK prog w C E (spliced (backTo pos (starEach es env))) Q))
    (he : (backTo pos (starEach es env)).all (fun x => !x.1) = true := by rfl) : EV prog w C E (eval (.Call (.Name x p) es [] pos) env) D Q := fun s d => by
  have e : eval (.Call (.Name x p) es [] pos) env = (do callWith pos (← eval (.Name x p) env) [] (backTo pos (starEach es env)) []) := rfl
  rw [e]
  refine wpAny_bind (wpAny_mono (h s d) (fun v s₁ q => ?_) fun _ _ x => x)
  obtain ⟨n, a, D₁, d₁, r, f, rfl, kp, q⟩ := q
  obtain rfl := r.v_
  exact wpAny_mono (callWith_gv (fa := []) d₁ kp .nil q he) (fun _ _ z => z.after n) fun _ _ x => x
noncomputable def GM (prog : Program) {w : World} (C : Cx w) (E : Value → Shared → Prop) (name : Str) (a : AV) (f : Value) (D : DS) : Prop :=
  ∀ (s : Shared) (u : Value) (pl : Sem Bool) (P : Value × List Value → Shared → Prop), Den C D s → Rv s.heap u a → P (f, [u]) s → wpAny (model prog w) C.A (getMethod u name pl) P E s
variable (prog w C E) in
noncomputable abbrev MK (f : Value) (a : AV) (Q : AV → DS → Prop) (l : List AV) (D : DS) : Prop := PL prog w C E Rv (fun vs => call f vs) Q (a :: l) D
inductive MethK (prog : Program) (w : World) (C : Cx w) (E : Value → Shared → Prop) (t : Sem (List Value)) (name : Str) (Q : AV → DS → Prop) (a : AV) (D : DS) : Prop
  | mk (f : Value) (gm : GM prog C E name a f D) (kp : Kp w f) (q : LV prog w C E t D (MK prog w C E f a Q)) : MethK prog w C E t name Q a D
theorem e_meth {o : Expr} {name : Str} {apos : Pos} {es : List Expr} {pl : Sem Bool} {Q : AV → DS → Prop}
    (h : EV prog w C E (eval o env) D (MethK prog w C E (spliced (backTo pos (starEach es env))) name Q))
    (he : (backTo pos (starEach es env)).all (fun x => !x.1) = true := by rfl)
    (hq : eval (.Call (.Attribute o name apos) es [] pos) env = (do
      let ov ← eval o env
      standAt apos.atName
      let (f, first) ← holding [ov] (getMethod ov name pl)
      callWith pos f first (backTo pos (starEach es env)) (backToKw pos (keywordEach [] env))) := by rfl) : EV prog w C E (eval (.Call (.Attribute o name apos) es [] pos) env) D Q := fun s d => by
  refine methodCall_KW (pl := pl) (wpAny_mono (h s d) (fun v s₁ q => ?_) fun _ _ x => x) hq
  obtain ⟨n, a, D₁, d₁, r, f, gm, kp, q⟩ := q
  exact gm s₁ v pl _ d₁ r (wpAny_mono (callWith_gv (fa := [a]) d₁ kp (.cons r .nil) q he) (fun _ _ z => z.after n) fun _ _ x => x)
/- methods of built-in types -/
theorem gm_list {i : Nat} {a : Addr} {l : List AV} {name : Str} {id : String} (hi : D.rs[i]? = some (one prog w a (.list l))) (sl : Slot "list" name id) (ht : typeOf (.builtin id) = pure (.type "method_descriptor")) :
    GM prog C E name (.v (.ref a)) (.builtin id) D := fun s u pl P d r h => by
  obtain rfl := r.v_
  obtain ⟨vs, hl, hr⟩ := d.listAt hi
  obtain ⟨n, e⟩ := hl
  exact getMethod_builtin (T := "list") ⟨_, e, rfl⟩ F.plainAttrs_list sl ht (fun b q => by cases q; exact ⟨_, e, rfl⟩) h
theorem gm_append {i : Nat} {a : Addr} {l : List AV} (hi : D.rs[i]? = some (one prog w a (.list l))) : GM prog C E "append" (.v (.ref a)) (.builtin "list.append") D := gm_list hi slot_list_append F.type_list_append
theorem ol_append {i : Nat} {a : Addr} {l : List AV} {x : AV} {Q : AV → DS → Prop} (hi : D.rs[i]? = some (one prog w a (.list l))) (hz : l.length ≤ 10000) (h : Q (.d .none) ⟨D.m, D.rs.set i (one prog w a (.list (l ++ [x])))⟩) :
    OL prog w C E Rv (fun vs => call (.builtin "list.append") vs) [.v (.ref a), x] D Q := olv2 fun s u d r2 => by
        obtain ⟨vs, hl, hr⟩ := d.listAt hi
        have hz' : vs.size = l.length := by have := hr.length; simpa using this
        refine wpAny_list_append_plain hl (fun h' hl' hs => ?_) (by rw [hz', sizeLine_eq]; omega)
        have le : Le s.heap h' := fun b o e t => (hs.2 b (fun q => by
          subst q
          obtain ⟨n, e'⟩ := hl
          rw [e] at e'; cases e'; have := t.1; simp at this)).trans e
        obtain ⟨n, e'⟩ := hl'
        exact .intro (d.upd hi (r' := one prog w a (.list (l ++ [x]))) rfl (fun b o q e => (hs.2 b (by simpa [one] using q)).trans e) (Nat.le_of_eq hs.1.symm)
          ⟨_, n, e', by rw [Array.toList_push]; exact (hr.le le).append (.cons (r2.le le) .nil)⟩) (.d .none) h
theorem ol_len {i : Nat} {a : Addr} {l : List AV} {Q : AV → DS → Prop} (hi : D.rs[i]? = some (one prog w a (.list l))) (hz : l.length ≤ 2 ^ 20) (h : Q (.d (.int l.length)) D) : OL prog w C E Rv (fun vs => call (.builtin "len") vs) [.v (.ref a)] D Q := olv1 fun s d => by
      obtain ⟨vs, hl, hr⟩ := d.listAt hi
      have hz' : vs.size = l.length := by have := hr.length; simpa using this
      exact PyProof.Rows.len_list hl.isList (by rw [hz']; omega) (.intro ⟨.toks _ _, d.toks _⟩ (.d (by rw [hz']; exact .int _ _)) h)
end
/-- the locals at a def's start -/
noncomputable def locals0 (ps : List Str) (args : List AV) (others : List Str) : Lc := (ps.zip args).map (fun p => (p.1, some p.2)) ++ others.map (fun x => (x, none))
noncomputable def flav : FL → AV
  | .ret a => a
  | _ => .d .none
/-- how a body ends -/
inductive FnE (rs : List Reg) (Q : AV → List Reg → List Reg → Prop) (f : FL) (r : List Reg) : Prop
  | mk (rs' nw junk : List Reg) (p : r.Perm (rs' ++ nw ++ junk)) (e : rs'.map Reg.foot = rs.map Reg.foot) (q : Q (flav f) rs' nw) : FnE rs Q f r
noncomputable abbrev FnEnd (rs : List Reg) (Q : AV → List Reg → List Reg → Prop) (f : FL) (D : DS) : Prop := FnE rs Q f D.rs
theorem zip_reverse_lookup : ∀ {ps : List Str} {vals : List Value}, ps.length ≤ vals.length → ps.Nodup → ∀ {i : Nat} {x : Str} {v : Value}, ps[i]? = some x → vals[i]? = some v → (ps.zip vals).reverse.lookup x = some v := by
  intro ps vals hle nd i x v h1 h2
  have mem : (x, v) ∈ (ps.zip vals).reverse := by
    rw [List.mem_reverse]
    exact List.mem_of_getElem? (i := i) (by rw [List.getElem?_zip_eq_some]; exact ⟨h1, h2⟩)
  have nd' : ((ps.zip vals).reverse.map (·.1)).Nodup := by
    rw [List.map_reverse, (List.reverse_perm _).nodup_iff]
    rw [List.map_fst_zip hle]; exact nd
  generalize (ps.zip vals).reverse = l at mem nd'
  induction l with
  | nil => cases mem
  | cons p l ih =>
    obtain ⟨y, u⟩ := p
    rw [List.map_cons, List.nodup_cons] at nd'
    rw [List.lookup_cons]
    rcases List.mem_cons.mp mem with e | mem
    · cases e; simp
    · have ne : x ≠ y := fun e => nd'.1 (List.mem_map.mpr ⟨(x, v), mem, e⟩)
      have : (x == y) = false := by simpa using ne
      rw [this]
      exact ih mem nd'.2
theorem flow_val {h : Heap} {fl : Flow} {b : FL} : RF h fl b → Rv h (match fl with | .ret v => v | _ => .none) (flav b) := fun rf => by
  cases rf with
  | ret r => exact r
  | _ => exact .d .none
section
variable {prog : Program} {w : World}
theorem fn_bodyB {H : Heap → Prop} {f : Addr} {oc : Value} {od : Option Addr} {fd : FuncData} {osl : Array (Option Value)} {body : List Stmt} {n : Nat} {args : List AV} {rs : List Reg} {Q : AV → List Reg → List Reg → Prop} (ps others : List Str)
    (ho : (KK w).lookup f = some ⟨oc, od, .func fd, osl⟩) (hb : fd.body = .stmts body) (hcd : codeIn (KK w) fd.code fd.qualname = true)
    (hbind : ∀ (s : Shared) (vals : List Value), (KK w).In s.heap → vals.length = args.length → BindsTo s fd ⟨vals, []⟩ (ps.zip vals)) (hl : ps.length = args.length)
    (hcell : ∀ x ∈ fd.scope.names, x.2 ≠ .cell) (hloc : ∀ x ∈ ps, fd.scope.names.lookup x = some .local) (hnd : (ps ++ others).Nodup)
    (h : ∀ C : Cx w, C.lv = n → C.own = feet rs → H C.h₁ → SV prog w C (fun _ _ => False) (execs body (callEnv fd C.L f)) ⟨locals0 ps args others, rs⟩ (FnEnd rs Q))
    (hco : fd.scope.isCoroutine = false) (hgen : fd.scope.isGenerator = false) (hk : fd.scope.kind = .function) : FnH prog w H (.ref f) (n + 1) args rs Q := fun h₁ A s vals hH p => by
  have X := p.bs.K.keeps p.base
  have lv : vals.length = args.length := p.vals.length
  refine codeAny_call_def (fd := fd) (body := body) (binds := ps.zip vals) (by have := p.depth; show _ < 1000; omega) (X _ _ ho) rfl (p.bs.nolimit.keeps p.base) (codeRec_of X hcd) hb (hbind s vals X lv) hcell
    (fun x hx => hloc x.1 (List.of_mem_zip hx).1) (fun h₀ hns hk₁ => ?_) hco hgen hk
  have psn : ps.Nodup := (List.nodup_append.mp hnd).1
  let C : Cx w := { h₁ := h₁, bs := p.bs, s₀ := s, own := feet rs, L := s.heap.objs.size, big := p.big, hL := Nat.le_refl _, A := A.deeper (callEnv fd s.heap.objs.size f), lv := n, handled := p.handled,
                    depth := by have := p.depth; show A.depth + 1 + n ≤ 900; omega, units := by have := p.units; show A.units + 3 + 20 * n ≤ 9000; omega }
  have hz : s.heap.objs.size ≤ h₀.objs.size := by obtain ⟨o, _, _, e, _⟩ := hns; exact Nat.le_of_lt (Heap.lt_size e)
  have le : Le s.heap h₀ := .of_keeps hk₁
  have nx : Nxt s { s with heap := h₀, toks := s.toks + (ps.zip vals).length } := ⟨le, _, _, rfl⟩
  have den : Den C ⟨locals0 ps args others, rs⟩ { s with heap := h₀, toks := s.toks + (ps.zip vals).length } := by
    refine ⟨nx, fun a o e => hk₁ a o (p.base a o e), fun a o e _ => hk₁ a o e, hz, ⟨_, hns, ?_, fun x av hm => ?_⟩, fun r hr => r.loc le (fun a _ o e => hk₁ a o e) (p.regs r hr), ?_, fun a ha => ?_⟩
    · have : (locals0 ps args others).map (·.1) = ps ++ others := by
        unfold locals0
        rw [List.map_append, List.map_map, List.map_map]
        have e1 : (ps.zip args).map ((fun x : Str × Option AV => x.1) ∘ fun p => (p.1, some p.2)) = ps := by
          rw [show ((fun x : Str × Option AV => x.1) ∘ fun p : Str × AV => (p.1, some p.2)) = Prod.fst from rfl, List.map_fst_zip (Nat.le_of_eq hl)]
        rw [e1]
        congr 1
        exact List.map_id' others
      rw [this]; exact hnd
    · unfold locals0 at hm
      rcases List.mem_append.mp hm with hm | hm
      · obtain ⟨q, hq, e⟩ := List.mem_map.mp hm
        obtain ⟨i, hi⟩ := List.mem_iff_getElem?.mp hq
        rw [List.getElem?_zip_eq_some] at hi
        cases e
        obtain ⟨v, hv1, hv2⟩ := p.vals.get hi.2
        exact ⟨v, zip_reverse_lookup (by omega) psn hi.1 hv1, hv2.le le⟩
      · obtain ⟨q, _, e⟩ := List.mem_map.mp hm
        cases e
    · refine List.nodup_cons.mpr ⟨fun q => ?_, p.nodup⟩
      obtain ⟨r, h1, h2⟩ := mem_feet.mp q
      exact absurd (r.live (p.regs r h1) _ h2).lt (Nat.lt_irrefl _)
    · rcases List.mem_cons.mp ha with rfl | ha
      · exact ⟨p.big, .inr (Nat.le_refl _)⟩
      · exact ⟨p.fresh a ha, .inl ha⟩
  refine wpAny_mono (h C rfl rfl hH _ den) (fun fl s' q => ?_) fun _ _ x => x.elim
  obtain ⟨n', b, D', d', rf, rs', nw, junk, pm, hf, q⟩ := q
  have hv := flow_val rf
  have dd := d'.perm pm
  have nd := List.nodup_cons.mp dd.nodup
  have fe : feet rs' = feet rs := feet_of_map hf
  have e1 : feet (rs' ++ nw ++ junk) = feet rs ++ (feet nw ++ feet junk) := by rw [feet_append, feet_append, fe, List.append_assoc]
  rw [show feet (DS.rs ⟨D'.m, rs' ++ nw ++ junk⟩) = feet rs ++ (feet nw ++ feet junk) from e1, List.nodup_append] at nd
  obtain ⟨-, nd1, nd2, nd3⟩ := nd
  have nd2' := List.nodup_append.mp nd2
  refine ⟨nx.trans n', dd.size, fun a o q e => dd.keep a o e q, flav b, rs', nw, hv, fun r hr => dd.regs r (List.mem_append_left _ hr), hf, nd2'.1, fun a ha => ?_, q⟩
  rcases (dd.fresh a (.tail _ (by show a ∈ feet (rs' ++ nw ++ junk); rw [e1]; exact List.mem_append_right _ (List.mem_append_left _ ha)))).2 with z | z
  · exact absurd rfl (nd3 a z a (List.mem_append_left _ ha))
  · exact z
theorem fn_bodyH {H : Heap → Prop} {f : Addr} {oc : Value} {od : Option Addr} {fd : FuncData} {osl : Array (Option Value)} {body : List Stmt} {n : Nat} {args : List AV} {rs : List Reg} {Q : AV → List Reg → List Reg → Prop} (ps others : List Str)
    (ho : (KK w).lookup f = some ⟨oc, od, .func fd, osl⟩) (hb : fd.body = .stmts body) (hcd : codeIn (KK w) fd.code fd.qualname = true)
    (hbind : ∀ vals : List Value, vals.length = args.length → bindArgs fd ⟨vals, []⟩ = pure (ps.zip vals)) (hl : ps.length = args.length)
    (hcell : ∀ x ∈ fd.scope.names, x.2 ≠ .cell) (hloc : ∀ x ∈ ps, fd.scope.names.lookup x = some .local) (hnd : (ps ++ others).Nodup)
    (h : ∀ C : Cx w, C.lv = n → C.own = feet rs → H C.h₁ → SV prog w C (fun _ _ => False) (execs body (callEnv fd C.L f)) ⟨locals0 ps args others, rs⟩ (FnEnd rs Q))
    (hco : fd.scope.isCoroutine = false) (hgen : fd.scope.isGenerator = false) (hk : fd.scope.kind = .function) : FnH prog w H (.ref f) (n + 1) args rs Q :=
  fn_bodyB ps others ho hb hcd (fun _ vals _ lv => BindsTo.of_eq (hbind vals lv)) hl hcell hloc hnd h hco hgen hk
theorem fn_body {f : Addr} {oc : Value} {od : Option Addr} {fd : FuncData} {osl : Array (Option Value)} {body : List Stmt} {n : Nat} {args : List AV} {rs : List Reg} {Q : AV → List Reg → List Reg → Prop} (ps others : List Str)
    (ho : (KK w).lookup f = some ⟨oc, od, .func fd, osl⟩) (hb : fd.body = .stmts body) (hcd : codeIn (KK w) fd.code fd.qualname = true)
    (hbind : ∀ vals : List Value, vals.length = args.length → bindArgs fd ⟨vals, []⟩ = pure (ps.zip vals)) (hl : ps.length = args.length)
    (hcell : ∀ x ∈ fd.scope.names, x.2 ≠ .cell) (hloc : ∀ x ∈ ps, fd.scope.names.lookup x = some .local) (hnd : (ps ++ others).Nodup)
    (h : ∀ C : Cx w, C.lv = n → C.own = feet rs → SV prog w C (fun _ _ => False) (execs body (callEnv fd C.L f)) ⟨locals0 ps args others, rs⟩ (FnEnd rs Q))
    (hco : fd.scope.isCoroutine = false) (hgen : fd.scope.isGenerator = false) (hk : fd.scope.kind = .function) : Fn prog w (.ref f) (n + 1) args rs Q :=
  (fn_bodyH (H := fun _ => True) ps others ho hb hcd hbind hl hcell hloc hnd (fun C a b _ => h C a b) hco hgen hk).fn
end
end Mine
end
section
open PySem PySem.W
set_option maxRecDepth 100000
namespace Mine
noncomputable def lawClass (t : Str) : Str :=
  if (["fx", "fy"] : List Str).any (· == t) then "prefix" else if (["xf", "yf"] : List Str).any (· == t) then "postfix" else if (["xfx", "xfy", "yfx"] : List Str).any (· == t) then "infix" else ""
section
variable {prog : Program} {w : World}
set_option maxHeartbeats 2000000
theorem fn_class (t : Str) : Fn prog w (.ref 370) 1 [.d (.str t)] [] (fun av rs' nw => av = .d (.str (lawClass t)) ∧ rs' = [] ∧ nw = []) := by
  refine fn_body ["text"] [] (by rfl) (by rfl) (by kernel_rfl) ?_ (by rfl) (by decide) (by decide) (by decide) ?_ (by rfl) (by rfl) (by rfl)
  · intro vals h
    obtain ⟨a, rfl⟩ := len1 h
    rfl
  intro C hC ho
  refine ss_cons (s_if (b_cmp (e_loc (i := 0) (by rfl) (e_list (l_cons (e_str (l_cons (e_str (l_nil ⟨by decide, fun a => ?_⟩)))))))))
  refine o_inList (i := 0) (xs := ["fx", "fy"]) (by rfl) ⟨_, rfl, fun h1 => ?_, fun h1 => ?_⟩
  · refine ss_cons (s_ret (e_str ?_))
    exact ⟨[], [], _, .refl _, rfl, (by simp only [flav, lawClass, h1, if_true]), rfl, rfl⟩
  refine ss_nil ?_
  refine ss_cons (s_if (b_cmp (e_loc (i := 0) (by rfl) (e_list (l_cons (e_str (l_cons (e_str (l_nil ⟨by decide, fun a => ?_⟩)))))))))
  refine o_inList (i := 1) (xs := ["xf", "yf"]) (by rfl) ⟨_, rfl, fun h2 => ?_, fun h2 => ?_⟩
  · refine ss_cons (s_ret (e_str ?_))
    exact ⟨[], [], _, .refl _, rfl, (by simp only [flav, lawClass, h1, h2, if_true]; rfl), rfl, rfl⟩
  refine ss_nil ?_
  refine ss_cons (s_if (b_cmp (e_loc (i := 0) (by rfl) (e_list (l_cons (e_str (l_cons (e_str (l_cons (e_str (l_nil ⟨by decide, fun a => ?_⟩))))))))))) 
  refine o_inList (i := 2) (xs := ["xfx", "xfy", "yfx"]) (by rfl) ⟨_, rfl, fun h3 => ?_, fun h3 => ?_⟩
  · refine ss_cons (s_ret (e_str ?_))
    exact ⟨[], [], _, .refl _, rfl, (by simp only [flav, lawClass, h1, h2, h3, if_true]; rfl), rfl, rfl⟩
  refine ss_nil ?_
  refine ss_cons (s_ret (e_str ?_))
  exact ⟨[], [], _, .refl _, rfl, (by simp only [flav, lawClass, h1, h2, h3]; rfl), rfl, rfl⟩
end
end Mine
end
section
open PySem PySem.W
set_option maxRecDepth 100000
namespace Mine
/-- one object of a known shape -/
noncomputable def objR (a : Addr) (p : Obj → Prop) (hp : ∀ o, p o → ¬ Tp o) : Reg where
  foot := [a]
  P := fun h => ∃ o, h.get? a = some o ∧ p o
  loc := fun _ e ⟨o, h1, h2⟩ => ⟨o, e a (by simp) o h1, h2⟩
  live := fun ⟨o, h1, h2⟩ b hb => by rw [List.mem_singleton.mp hb]; exact ⟨o, h1, hp o h2⟩
theorem notTp_cls {o : Obj} {T : String} (h : o.cls = .type T) (e : (Value.type T == Value.type "tuple") = false := by decide) : ¬ Tp o := fun t => by
  have := t.1
  rw [h] at this
  simp only [beq_eq_false_iff_ne] at e
  exact e this
noncomputable def itList (I l : Addr) (i : Nat) : Reg := objR I (fun o => o.cls = .type "list_iterator" ∧ o.data = .fields #[.ref l, .int i 0]) fun o h => notTp_cls h.1
noncomputable def itRev (I l : Addr) (i : Int) : Reg := objR I (fun o => o.cls = .type "list_reverseiterator" ∧ o.data = .fields #[.ref l, rawInt i]) fun o h => notTp_cls h.1
noncomputable def itRng (I : Addr) (x left step : Int) : Reg := objR I (fun o => o = { cls := .type "range_iterator", dict := none, data := .fields #[rawInt x, rawInt left, rawInt step], slots := #[] }) fun o h => by subst h; exact notTp_cls rfl
noncomputable def rngR (r : Addr) (a b c : Int) : Reg := objR r (fun o => ∃ t u v, o = { cls := .type "range", dict := none, data := .fields #[.int a t, .int b u, .int c v], slots := #[] }) fun o ⟨_, _, _, h⟩ => by subst h; exact notTp_cls rfl
noncomputable def itTup (I t : Addr) (i : Nat) (l : List AV) : Reg where
  foot := [I]
  P := fun h => h.IsTupleIter I t i ∧ Rv h (.ref t) (.tup l)
  loc := fun k e x => ⟨x.1.at (e I (by simp)), x.2.le k⟩
  live := fun x b hb => by
    rw [List.mem_singleton.mp hb]
    obtain ⟨⟨o, ho, hc, _⟩, _⟩ := x
    exact ⟨o, ho, notTp_cls hc⟩
inductive Ropt (h : Heap) : Option Value → Option AV → Prop
  | none : Ropt h none none
  | some {v : Value} {a : AV} : Rv h v a → Ropt h (some v) (some a)
theorem RvL.toTup {h : Heap} : ∀ {vs : List Value} {xs : List PyData} {as : List Addr}, ReadsAll h vs xs as → as = [] → RvL h vs (xs.map .d) := RvL.of_reads
theorem Rv.toTup {h : Heap} {v : Value} {xs : List PyData} (r : Rv h v (.d (.tuple xs))) : Rv h v (.tup (xs.map .d)) := by
  obtain ⟨a, o, vs, n, rfl, ho, hc, hd, hr⟩ := r.tupD
  exact .tup ho hc hd (RvL.of_reads hr rfl)
/-- what is left of the locals m where m' forgets -/
noncomputable def fgTo : Lc → Lc → Lc
  | (x, _) :: m, (_, none) :: m' => (x, none) :: fgTo m m'
  | p :: m, (_, some _) :: m' => p :: fgTo m m'
  | m, _ => m
theorem fgTo_fg (m : Lc) : ∀ m', Fg m (fgTo m m') := by
  induction m with
  | nil => intro m'; cases m' <;> exact .nil
  | cons p m ih =>
    intro m'
    obtain ⟨x, o⟩ := p
    cases m' with
    | nil => exact Fg.refl _
    | cons q m' =>
      obtain ⟨y, b⟩ := q
      cases b with
      | none => exact .drop (ih m')
      | some b => exact .keep (ih m')
theorem fg_of {m m' : Lc} (h : fgTo m m' = m') : Fg m m' := h ▸ fgTo_fg m m'
section
variable {prog : Program} {w : World} {C : Cx w} {E : Value → Shared → Prop} {D : DS} {env : Env} {pos : Pos}
theorem sl_pre {a b j : List Reg} (e : b = a ++ j) : a.Sublist b := e ▸ List.sublist_append_left a j
theorem to_of {D D' : DS} (hm : Fg D.m D'.m := by exact fg_of rfl) (hr : D'.rs.Sublist D.rs := by first | exact sl_pre rfl | exact .refl _) :
    ∀ s, Den C D s → Den C D' s := fun s d => (d.fg hm).sub hr
theorem to_oS {D D' : DS} (hm : Fg D.m D'.m := by exact fg_of rfl) (hr : D'.rs.Sublist D.rs := by repeat (first | exact List.Sublist.slnil | apply List.Sublist.cons_cons | apply List.Sublist.cons)) : ∀ s, Den C D s → Den C D' s := to_of hm hr
variable (prog C E) in
noncomputable abbrev AS (target : Expr) (env : Env) (a : AV) (D : DS) (Q : DS → Prop) : Prop := O1 prog w C E Ru (fun v => assign target env v) a D (KU Q)
theorem as_name {x : Str} {p : Pos} {i : Nat} {o : Option AV} {a : AV} {Q : DS → Prop} (hi : D.m[i]? = some (x, o)) (h : Q ⟨D.m.set i (x, some a), D.rs⟩) (hL : env.locals = C.L := by rfl)
    (hk : env.scope.kind = .function := by rfl) (hl : env.kindOf x = some .local := by rfl) : AS prog C E (.Name x p) env a D Q := fun s u d r =>
  wpAny_assign_Name (u_store d r hi h hL hk hl)
set_option genInjectivity false in
set_option genSizeOf false in
/-- something iterated: the objects it reads, the iterator after k turns, and what it gives -/
structure Src (prog : Program) {w : World} (C : Cx w) where
  it : Value
  l : List AV
  reg : Nat → Reg
  src : List Reg
  next : ∀ (E : Value → Shared → Prop) (k : Nat) (D : DS) (j : Nat) (Q : Option AV → DS → Prop), k ≤ l.length → (∀ r ∈ src, r ∈ D.rs) → D.rs[j]? = some (reg k) →
    (∀ x, l[k]? = some x → Q (some x) ⟨D.m, D.rs.set j (reg (k + 1))⟩) → (l[k]? = none → Q none ⟨D.m, D.rs.eraseIdx j⟩) → GV prog w C E Ropt (pyNext it) D Q
inductive JLI (C : Cx w) (J : Nat → DS → Prop) (S : Src prog C) (k : Nat) (D : DS) : Prop
  | mk (D' : DS) (t : ∀ s, Den C D s → Den C ⟨D'.m, D'.rs ++ [S.reg k]⟩ s) (j : J k D') : JLI C J S k D
noncomputable abbrev LoopK (N : DS → Prop) (Q : FL → DS → Prop) (f : FL) (D : DS) : Prop := match f with
  | .next | .cont => N D
  | .brk => Q .next D
  | .ret a => Q (.ret a) D
inductive ForK (prog : Program) (w : World) (C : Cx w) (E : Value → Shared → Prop) (target : Expr) (env : Env) (body : List Stmt) (Q : FL → DS → Prop) (ia : AV) (D : DS) : Prop
  | mk (S : Src prog C) (e : ia = .v S.it) (J : Nat → DS → Prop) (hs : ∀ k D', J k D' → ∀ r ∈ S.src, r ∈ D'.rs) (h0 : JLI C J S 0 D)
    (step : ∀ k x D', S.l[k]? = some x → J k D' → AS prog C E target env x ⟨D'.m, D'.rs ++ [S.reg (k + 1)]⟩ (GW prog w C E RF (execs body env) (LoopK (JLI C J S (k + 1)) Q)))
    (hQ : ∀ D', J S.l.length D' → Q .next D') : ForK prog w C E target env body Q ia D
inductive WhN {w : World} (C : Cx w) (J : Nat → DS → Prop) (n : Nat) (D : DS) : Prop
  | mk (m : Nat) (h : m < n) (D' : DS) (t : ∀ s, Den C D s → Den C D' s) (j : J m D') : WhN C J n D
theorem set_last {rs : List Reg} {a b : Reg} : (rs ++ [a]).set rs.length b = rs ++ [b] := by simp
theorem erase_last {rs : List Reg} {a : Reg} : (rs ++ [a]).eraseIdx rs.length = rs := by
  rw [List.eraseIdx_append_of_length_le (Nat.le_refl _)]; simp
theorem get_last {rs : List Reg} {a : Reg} : (rs ++ [a])[rs.length]? = some a := by simp
inductive LI {w : World} (C : Cx w) (N : Nat) (reg : Nat → Reg) (J : Nat → DS → Prop) (s : Shared) (n : Nat) (s' : Shared) : Prop
  | mk (k : Nat) (D' : DS) (e : n = N + 1 - k) (hk : k ≤ N) (n1 : Nxt s s') (d : Den C ⟨D'.m, D'.rs ++ [reg k]⟩ s') (j : J k D') : LI C N reg J s n s'
/-- the loop of a for statement -/
theorem for_code {target : Expr} {body : List Stmt} {Q : FL → DS → Prop} (S : Src prog C) (J : Nat → DS → Prop) (hE : PassesOwn (model prog w) C.A env E) (hs : ∀ k D', J k D' → ∀ r ∈ S.src, r ∈ D'.rs)
    (h0 : JLI C J S 0 D) (step : ∀ k x D', S.l[k]? = some x → J k D' → AS prog C E target env x ⟨D'.m, D'.rs ++ [S.reg (k + 1)]⟩ (GW prog w C E RF (execs body env) (LoopK (JLI C J S (k + 1)) Q)))
    (hQ : ∀ k D', S.l[k]? = none → k ≤ S.l.length → J k D' → Q .next D') (ht : ∀ v, letOwnedTupleGo target S.it v = pure () := by intro _; rfl) :
    ∀ s, Den C D s → codeAny (model prog w) C.A (.forLoop target S.it body [] env) (fun r s' => match r with | .ok f => Po C RF Q s f s' | .error e => cameBackBy (model prog w) C.A env E e s') s := fun s d => by
  refine codeAny_forLoop (LI C S.l.length S.reg J s) ?_ (S.l.length + 1) ?_ ht
  · rintro n s₁ ⟨k, D', rfl, hkl, n1, d1, hJ⟩
    refine wpAny_mono (S.next E k ⟨D'.m, D'.rs ++ [S.reg k]⟩ D'.rs.length (fun o D₁ => match o with
      | none => S.l[k]? = none ∧ D₁ = D'
      | some x => S.l[k]? = some x ∧ D₁ = ⟨D'.m, D'.rs ++ [S.reg (k + 1)]⟩) hkl (fun r hr => List.mem_append_left _ (hs k D' hJ r hr)) get_last (fun x hx => ⟨hx, by simp only [set_last]⟩) (fun hx => ⟨hx, by simp only [erase_last]⟩) s₁ d1)
      (fun v s₂ p => ?_) fun e s' x => hE e s' x
    obtain ⟨n2, o, D₁, d2, r, q⟩ := p
    cases r with
    | none =>
      obtain ⟨q, rfl⟩ := q
      exact wpAny_execs_nil ⟨n1.trans n2, .next, D₁, d2, .next, hQ k D₁ q hkl hJ⟩
    | @some v a r =>
      obtain ⟨q, rfl⟩ := q
      have hlt : k < S.l.length := (List.getElem?_eq_some_iff.mp q).1
      refine wpAny_mono (step k a D' q hJ s₂ v d2 r) (fun _ s₃ p => ?_) fun e s' x => hE e s' x
      obtain ⟨n3, _, D₂, d3, _, q3⟩ := p
      refine wpAny_mono (q3 s₃ d3) (fun f s₄ p => ?_) fun e s' x => hE e s' x
      obtain ⟨n4, f', D₃, d4, rf, q4⟩ := p
      have nn := n1.trans (n2.trans (n3.trans n4))
      cases rf with
      | next => obtain ⟨D₄, t, j⟩ := q4; exact ⟨S.l.length + 1 - (k + 1), by omega, k + 1, D₄, rfl, hlt, nn, t _ d4, j⟩
      | cont => obtain ⟨D₄, t, j⟩ := q4; exact ⟨S.l.length + 1 - (k + 1), by omega, k + 1, D₄, rfl, hlt, nn, t _ d4, j⟩
      | brk => exact ⟨nn, .next, D₃, d4, .next, q4⟩
      | ret r => exact ⟨nn, _, D₃, d4, .ret r, q4⟩
  · obtain ⟨D', t, j⟩ := h0
    exact ⟨0, D', rfl, Nat.zero_le _, .refl s, t s d, j⟩
theorem s_for {target iter : Expr} {body : List Stmt} {Q : FL → DS → Prop}
    (h : EV prog w C E (eval iter env) D (P1 prog w C E Rv pyIter (ForK prog w C E target env body Q)))
    (hE : PassesOwn (model prog w) C.A env E := by exact PassesOwn.never) (hf : ∀ x, foldedSetIterable iter env x = pure x := by intro _; rfl) (ht : ∀ it v, letOwnedTupleGo target it v = pure () := by intro _ _; rfl) :
    SV prog w C E (exec (.For target iter body [] pos) env) D Q := fun s d =>
  wpAny_For (wpAny_mono (seq1 (R := Rv) d h) (fun xv s₁ p => wpAny_mono p (fun iv s₂ p => by
    obtain ⟨n, ia, D₂, d₂, r, S, rfl, J, hs, h0, step, hQ⟩ := p
    obtain rfl := r.v_
    refine codeAny_mono (for_code S J hE hs h0 step (fun k D' hk hkl j => by
      have : k = S.l.length := Nat.le_antisymm hkl (List.getElem?_eq_none_iff.mp hk)
      subst this; exact hQ D' j) (ht S.it) s₂ d₂) fun r s' q => ?_
    cases r with
    | ok f => exact q.after n
    | error e => exact q) fun _ _ x => x) fun _ _ x => x) hf
inductive WI {w : World} (C : Cx w) (J : Nat → DS → Prop) (s : Shared) (n : Nat) (s' : Shared) : Prop
  | mk (D' : DS) (n1 : Nxt s s') (d : Den C D' s') (j : J n D') : WI C J s n s'
theorem s_while {test : Expr} {body : List Stmt} {Q : FL → DS → Prop} (J : Nat → DS → Prop) (n : Nat) (h0 : ∃ D', (∀ s, Den C D s → Den C D' s) ∧ J n D')
    (turn : ∀ n D, J n D → BV prog w C E (isTrue test env (eval test env)) D (Br (GW prog w C E RF (execs body env) (LoopK (WhN C J n) Q)) (Q .next)))
    (hE : PassesOwn (model prog w) C.A env E := by exact PassesOwn.never) : SV prog w C E (exec (.While test body [] pos) env) D Q := fun s d => by
  refine wpAny_While (codeAny_whileLoop (WI C J s) ?_ n ?_)
  · rintro n s₁ ⟨D', n1, d1, hJ⟩
    refine wpAny_mono (turn n D' hJ s₁ d1) (fun b s₂ p => ?_) fun e s' x => hE e s' x
    obtain ⟨n2, b', D₁, d2, rfl, q⟩ := p
    cases b with
    | false => exact wpAny_execs_nil ⟨n1.trans n2, .next, D₁, d2, .next, q.2 rfl⟩
    | true =>
      refine wpAny_mono (q.1 rfl s₂ d2) (fun f s₃ p => ?_) fun e s' x => hE e s' x
      obtain ⟨n3, f', D₃, d3, rf, q3⟩ := p
      have nn := n1.trans (n2.trans n3)
      cases rf with
      | next => obtain ⟨m, hm, D₄, t, j⟩ := q3; exact ⟨m, hm, D₄, nn, t _ d3, j⟩
      | cont => obtain ⟨m, hm, D₄, t, j⟩ := q3; exact ⟨m, hm, D₄, nn, t _ d3, j⟩
      | brk => exact ⟨nn, .next, D₃, d3, .next, q3⟩
      | ret r => exact ⟨nn, _, D₃, d3, .ret r, q3⟩
  · obtain ⟨D', t, j⟩ := h0
    exact ⟨D', .refl s, t s d, j⟩
/- sources -/
theorem Den.listMem {a : Addr} {l : List AV} {s : Shared} (d : Den C D s) (hi : one prog w a (.list l) ∈ D.rs) : ∃ vs, s.heap.PlainList a vs ∧ RvL s.heap vs.toList l :=
  let ⟨vs, n, e, r⟩ := (d.regs _ hi : RO prog w s.heap a (.list l)); ⟨vs, ⟨n, e⟩, r⟩
noncomputable def srcList (prog : Program) {w : World} (C : Cx w) (I a : Addr) (l : List AV) : Src prog C where
  it := .ref I
  l := l
  reg := fun k => itList I a k
  src := [one prog w a (.list l)]
  next := fun E k D j Q hkl hs hj h1 h2 s d => by
    obtain ⟨vs, hl, hr⟩ := d.listMem (hs _ (.head _))
    obtain ⟨o, ho, hc, hd⟩ := d.regs _ (mem_of_get hj)
    cases hx : l[k]? with
    | some x =>
      obtain ⟨v, hv, rv⟩ := hr.get hx
      refine wpAny_pyNext_list_item ⟨o, ho, hc, hd⟩ hl.isList (x := v) (by simpa using hv) fun h' hit' hs' => ?_
      have st := d.upd hj (r' := itList I a (k + 1)) rfl (h' := h') (tk := s.toks) (fun b o q e => (hs'.2 b (fun z => q (by subst z; exact .head _))).trans e) (Nat.le_of_eq hs'.1.symm) hit'
      exact .intro st (.some (rv.le st.1.1)) (h1 x hx)
    | none =>
      refine wpAny_pyNext_list_end C.handled ⟨o, ho, hc, hd⟩ hl.isList (by simpa using hr.get_none hx) fun h' hs' => ?_
      have st := d.drop hj (h' := h') (tk := s.toks) (fun b o q e => hs' b o (fun z => q (by subst z; exact .head _)) e)
      exact .intro st .none (h2 hx)
theorem oi_list {i : Nat} {a : Addr} {l : List AV} {Q : AV → DS → Prop} (hi : D.rs[i]? = some (one prog w a (.list l))) (h : ∀ I, Q (.v (.ref I)) ⟨D.m, D.rs ++ [itList I a 0]⟩) : O1 prog w C E Rv pyIter (.v (.ref a)) D Q := o1v fun s d => by
  obtain ⟨vs, hl, hr⟩ := d.listAt hi
  exact wpAny_pyIter_list hl.isList (.intro (d.new (itList s.heap.objs.size a 0) (tk := s.toks) (push_keeps _ _) (push_size _ _) ⟨_, Heap.get?_push_size _ rfl, rfl, rfl⟩ (by simp [itList, objR]) (by simp [itList, objR])) (.v _) (h _))
noncomputable def srcTup (prog : Program) {w : World} (C : Cx w) (I t : Addr) (l : List AV) : Src prog C where
  it := .ref I
  l := l
  reg := fun k => itTup I t k l
  src := []
  next := fun E k D j Q hkl hs hj h1 h2 s d => by
    obtain ⟨hit, rt⟩ := d.regs _ (mem_of_get hj)
    have rt' := rt
    obtain ⟨a, o, vs, n, e, ho, hc, hd, hr⟩ := rt.tupA
    obtain rfl : t = a := Value.ref.inj e
    · cases hx : l[k]? with
      | some x =>
        obtain ⟨v, hv, rv⟩ := hr.get hx
        refine wpAny_pyNext_tuple_item hit ⟨o, ho, hc, n, hd⟩ (x := v) (by simpa using hv) fun h' hit' hs' => ?_
        have hk : ∀ b o, b ∉ (itTup I t k l).foot → s.heap.get? b = some o → h'.get? b = some o := fun b o q e => (hs'.2 b (fun z => q (by subst z; exact .head _))).trans e
        have le : Le s.heap h' := fun b o e tp => hk b o (fun z => by
          obtain ⟨o', e', t'⟩ := d.notTp (.tail _ (mem_feet.mpr ⟨_, mem_of_get hj, z⟩))
          rw [e] at e'; cases e'; exact t' tp) e
        have st := d.upd hj (r' := itTup I t (k + 1) l) rfl (h' := h') (tk := s.toks) hk (Nat.le_of_eq hs'.1.symm) ⟨hit', rt'.le le⟩
        exact .intro st (.some (rv.le st.1.1)) (h1 x hx)
      | none =>
        refine wpAny_pyNext_tuple_end C.handled hit ⟨o, ho, hc, n, hd⟩ (by simpa using hr.get_none hx) fun h' hs' => ?_
        have st := d.drop hj (h' := h') (tk := s.toks) (fun b o q e => hs' b o (fun z => q (by subst z; exact .head _)) e)
        exact .intro st .none (h2 hx)
theorem oi_tup {l : List AV} {Q : AV → DS → Prop} (h : ∀ I t, Q (.v (.ref I)) ⟨D.m, D.rs ++ [itTup I t 0 l]⟩) : O1 prog w C E Rv pyIter (.tup l) D Q := fun s u d r => by
  obtain ⟨a, o, vs, n, rfl, ho, hc, hd, hr⟩ := r.tupA
  have r' := r
  exact wpAny_pyIter_tuple ⟨o, ho, hc, n, hd⟩ (.intro (d.new (itTup s.heap.objs.size a 0 l) (tk := s.toks) (push_keeps _ _) (push_size _ _) ⟨⟨_, Heap.get?_push_size _ rfl, rfl, rfl⟩, r'.le (.of_keeps (push_keeps _ _))⟩ (by simp [itTup]) (by simp [itTup])) (.v _) (h _ _))
theorem oi_tuple {xs : List PyData} {Q : AV → DS → Prop} (h : ∀ I t, Q (.v (.ref I)) ⟨D.m, D.rs ++ [itTup I t 0 (xs.map .d)]⟩) : O1 prog w C E Rv pyIter (.d (.tuple xs)) D Q := fun s u d r => oi_tup h s u d r.toTup
noncomputable def srcRng (prog : Program) {w : World} (C : Cx w) (I : Addr) (n : Nat) : Src prog C where
  it := .ref I
  l := (List.range n).map fun k : Nat => AV.d (.int (k : Int))
  reg := fun k => itRng I k ((n : Int) - k) 1
  src := []
  next := fun E k D j Q hkl hs hj h1 h2 s d => by
    obtain ⟨o, ho, rfl⟩ := d.regs _ (mem_of_get hj)
    by_cases hlt : k < n
    · refine wpAny_pyNext_range_item ho (by omega) fun h' hit' hs' => ?_
      have e1 : ((k + 1 : Nat) : Int) = (k : Int) + 1 := by omega
      have e2 : (n : Int) - ((k + 1 : Nat) : Int) = (n : Int) - k - 1 := by omega
      have st := d.upd hj (r' := itRng I ((k + 1 : Nat) : Int) ((n : Int) - ((k + 1 : Nat) : Int)) 1) rfl (h' := h') (tk := s.toks + 1) (fun b o q e => (hs'.2 b (fun z => q (by subst z; exact .head _))).trans e) (Nat.le_of_eq hs'.1.symm)
        ⟨_, by rw [e2, e1]; exact hit', rfl⟩
      exact .intro st (.some (.d (.int _ _))) (h1 _ (by simp [hlt]))
    · refine wpAny_pyNext_range_end C.handled ho (by omega) fun h' hs' => ?_
      have st := d.drop hj (h' := h') (tk := s.toks) (fun b o q e => hs' b o (fun z => q (by subst z; exact .head _)) e)
      exact .intro st .none (h2 (by simp; omega))
theorem ol_range {n : Nat} {Q : AV → DS → Prop} (h : ∀ r, Q (.v (.ref r)) ⟨D.m, D.rs ++ [rngR r 0 n 1]⟩) : OL prog w C E Rv (fun vs => call (.type "range") vs) [.d (.int n)] D Q := ol1 fun s u d r1 => by
      obtain ⟨t, rfl⟩ := r1.int_
      exact call_range_1 (.intro (d.new (rngR s.heap.objs.size 0 n 1) (push_keeps _ _) (push_size _ _) ⟨_, Heap.get?_push_size _ rfl, _, _, _, rfl⟩ (by simp [rngR, objR]) (by simp [rngR, objR])) (.v _) (h _))
theorem oi_rng {i : Nat} {r : Addr} {n : Nat} {Q : AV → DS → Prop} (hi : D.rs[i]? = some (rngR r 0 n 1)) (hn : n < 2 ^ 62) (h : ∀ I, Q (.v (.ref I)) ⟨D.m, D.rs ++ [itRng I ((0 : Nat) : Int) ((n : Int) - ((0 : Nat) : Int)) 1]⟩) : O1 prog w C E Rv pyIter (.v (.ref r)) D Q := fun s u d rr => by
  obtain rfl := rr.v_
  obtain ⟨o, ho, t, u, v, rfl⟩ := d.regs _ (mem_of_get hi)
  have e : Builtin.Range.rangeSize 0 n 1 = (n : Int) - ((0 : Nat) : Int) := by rw [rangeSize_one]; split <;> omega
  exact wpAny_pyIter_range ho (small_one (by omega) (by omega) (by omega) (by omega)) (.intro (d.new (itRng s.heap.objs.size ((0 : Nat) : Int) ((n : Int) - ((0 : Nat) : Int)) 1) (tk := s.toks) (push_keeps _ _) (push_size _ _)
    ⟨_, Heap.get?_push_size _ rfl, by rw [e]; rfl⟩ (by simp [itRng, objR]) (by simp [itRng, objR])) (.v _) (h _))
noncomputable def srcRev (prog : Program) {w : World} (C : Cx w) (I a : Addr) (l : List AV) : Src prog C where
  it := .ref I
  l := l.reverse
  reg := fun k => itRev I a ((l.length : Int) - 1 - k)
  src := [one prog w a (.list l)]
  next := fun E k D j Q hkl hs hj h1 h2 s d => by
    obtain ⟨vs, hl, hr⟩ := d.listMem (hs _ (.head _))
    obtain ⟨o, ho, hc, hd⟩ := d.regs _ (mem_of_get hj)
    by_cases hlt : k < l.length
    · have hx : l[l.length - 1 - k]? = some (l[l.length - 1 - k]'(by omega)) := List.getElem?_eq_getElem (by omega)
      obtain ⟨v, hv, rv⟩ := hr.get hx
      have e1 : (l.length : Int) - 1 - k = ((l.length - 1 - k : Nat) : Int) := by omega
      rw [e1] at hd
      refine wpAny_pyNext_rev_item (i := l.length - 1 - k) ⟨o, ho, hc, hd⟩ hl.isList (x := v) (by simpa using hv) fun h' hit' hs' => ?_
      have e2 : (l.length : Int) - 1 - ((k + 1 : Nat) : Int) = ((l.length - 1 - k : Nat) : Int) - 1 := by omega
      have st := d.upd hj (r' := itRev I a ((l.length : Int) - 1 - ((k + 1 : Nat) : Int))) rfl (h' := h') (tk := s.toks) (fun b o q e => (hs'.2 b (fun z => q (by subst z; exact .head _))).trans e) (Nat.le_of_eq hs'.1.symm)
        (by rw [e2]; exact hit')
      exact .intro st (.some (rv.le st.1.1)) (h1 _ (by rw [List.getElem?_reverse hlt]; exact hx))
    · have he : k = l.length := by rw [List.length_reverse] at hkl; omega
      have e1 : (l.length : Int) - 1 - k = -1 := by omega
      rw [e1] at hd
      refine wpAny_pyNext_rev_end C.handled ⟨o, ho, hc, hd⟩ fun h' hs' => ?_
      have st := d.drop hj (h' := h') (tk := s.toks) (fun b o q e => hs' b o (fun z => q (by subst z; exact .head _)) e)
      exact .intro st .none (h2 (by simp; omega))
end
end Mine
end
section
open PySem PySem.W
set_option maxRecDepth 100000
namespace Mine
section
variable {prog : Program} {w : World} {C : Cx w} {E : Value → Shared → Prop} {D : DS} {env : Env} {pos : Pos}
variable (prog) in
/-- a list that can be read: of the store, or the script -/
noncomputable def ListNow (C : Cx w) (D : DS) (a : Addr) (l : List AV) : Prop := ∀ s, Den C D s → ∃ vs : List Value, s.heap.IsList a vs.toArray ∧ RvL s.heap vs l
theorem ListNow.at {i : Nat} {a : Addr} {l : List AV} (hi : D.rs[i]? = some (one prog w a (.list l))) : ListNow C D a l := fun s d =>
  let ⟨vs, h, r⟩ := d.listAt hi; ⟨vs.toList, by rw [Array.toArray_toList]; exact h.isList, r⟩
inductive SliceK (prog : Program) (w : World) (C : Cx w) (cut : Nat → List AV → List AV) (Q : AV → DS → Prop) (oa ua : AV) (D : DS) : Prop
  | mk (a : Addr) (l : List AV) (k : Nat) (e : oa = .v (.ref a)) (u : ua = .d (.int k)) (hl : ListNow C D a l) (hz : l.length ≤ 10000) (q : ∀ b, Q (.v (.ref b)) ⟨D.m, D.rs ++ [one prog w b (.list (cut k l))]⟩) : SliceK prog w C cut Q oa ua D
variable (prog w C E) in
noncomputable abbrev SlK (t : Sem Value) (cut : Nat → List AV → List AV) (Q : AV → DS → Prop) (a : AV) (D : DS) : Prop := GW prog w C E Rv t (SliceK prog w C cut Q a) D
theorem e_upto {value upper : Expr} {p : Pos} {Q : AV → DS → Prop}
    (h : EV prog w C E (eval value env) D (SlK prog w C E (eval upper env) List.take Q))
    (ht : ∀ o r, letTemporaryGo value o r = pure () := by intro _ _; rfl) : EV prog w C E (eval (.Subscript value (.Slice none (some upper) none p) pos) env) D Q := fun s d => by
  refine wpAny_Subscript_list_slice (wpAny_mono (h s d) (fun o s₁ q => ?_) fun _ _ x => x) ht
  obtain ⟨n1, oa, D₁, d₁, r₁, q⟩ := q
  rw [evalPart_none]
  refine wpAny_pure ?_
  rw [evalPart_some]
  refine wpAny_mono (q s₁ d₁) (fun u s₂ q => ?_) fun _ _ x => x
  obtain ⟨n2, ua, D₂, d₂, r₂, a, l, k, rfl, rfl, hl, hz, q'⟩ := q
  obtain rfl := r₁.v_
  obtain ⟨t, rfl⟩ := r₂.int_
  obtain ⟨vs, hvs, hr⟩ := hl s₂ d₂
  refine ⟨a, vs.toArray, none, some (k : Int), rfl, hvs, by rw [List.size_toArray, hr.length, sizeLine_eq]; omega, .none, .int _ _, ?_⟩
  rw [slicePick_upto']
  refine Po.after (n1.trans n2) (.intro (d₂.new (one prog w (s₂.heap.objs.size + 1) (.list (l.take k))) (tk := s₂.toks) (fun b o e => push_keeps _ _ _ _ (push_keeps _ _ _ _ e)) (by rw [Heap.size_push, Heap.size_push]; omega)
    ⟨(vs.take k).toArray, 0, ?_, ?_⟩ (by simp [one]) (by simp [one])) (.v _) (q' _))
  · exact Heap.get?_push_at (by rw [Heap.size_push]) rfl
  · simp only [List.toList_toArray]
    have le : Le s₂.heap ((s₂.heap.push { cls := .type "slice", data := .fields #[.none, .int k t, .none] }).push { cls := .type "list", data := .seq (vs.take k).toArray }) :=
      .of_keeps fun b o e => push_keeps _ _ _ _ (push_keeps _ _ _ _ e)
    have take : ∀ {vs : List Value} {l : List AV}, RvL s₂.heap vs l → ∀ k, RvL s₂.heap (vs.take k) (l.take k) := by
      intro vs l h
      induction vs generalizing l with
      | nil => intro k; cases h; simp; exact .nil
      | cons v vs ih =>
        intro k
        cases h with
        | cons a b => cases k with
          | zero => simp; exact .nil
          | succ k => exact .cons a (ih b k)
    exact (take hr k).le le
theorem e_from {value lower : Expr} {p : Pos} {Q : AV → DS → Prop}
    (h : EV prog w C E (eval value env) D (SlK prog w C E (eval lower env) List.drop Q))
    (ht : ∀ o r, letTemporaryGo value o r = pure () := by intro _ _; rfl) : EV prog w C E (eval (.Subscript value (.Slice (some lower) none none p) pos) env) D Q := fun s d => by
  refine wpAny_Subscript_list_slice (wpAny_mono (h s d) (fun o s₁ q => ?_) fun _ _ x => x) ht
  obtain ⟨n1, oa, D₁, d₁, r₁, q⟩ := q
  rw [evalPart_some]
  refine wpAny_mono (q s₁ d₁) (fun u s₂ q => ?_) fun _ _ x => x
  obtain ⟨n2, ua, D₂, d₂, r₂, a, l, k, rfl, rfl, hl, hz, q'⟩ := q
  rw [evalPart_none]
  refine wpAny_pure ?_
  obtain rfl := r₁.v_
  obtain ⟨t, rfl⟩ := r₂.int_
  obtain ⟨vs, hvs, hr⟩ := hl s₂ d₂
  refine ⟨a, vs.toArray, some (k : Int), none, rfl, hvs, by rw [List.size_toArray, hr.length, sizeLine_eq]; omega, .int _ _, .none, ?_⟩
  rw [slicePick_from']
  refine Po.after (n1.trans n2) (.intro (d₂.new (one prog w (s₂.heap.objs.size + 1) (.list (l.drop k))) (tk := s₂.toks) (fun b o e => push_keeps _ _ _ _ (push_keeps _ _ _ _ e)) (by rw [Heap.size_push, Heap.size_push]; omega)
    ⟨(vs.drop k).toArray, 0, ?_, ?_⟩ (by simp [one]) (by simp [one])) (.v _) (q' _))
  · exact Heap.get?_push_at (by rw [Heap.size_push]) rfl
  · simp only [List.toList_toArray]
    have le : Le s₂.heap ((s₂.heap.push { cls := .type "slice", data := .fields #[.int k t, .none, .none] }).push { cls := .type "list", data := .seq (vs.drop k).toArray }) :=
      .of_keeps fun b o e => push_keeps _ _ _ _ (push_keeps _ _ _ _ e)
    have drop : ∀ {vs : List Value} {l : List AV}, RvL s₂.heap vs l → ∀ k, RvL s₂.heap (vs.drop k) (l.drop k) := by
      intro vs l h
      induction vs generalizing l with
      | nil => intro k; cases h; simp; exact .nil
      | cons v vs ih =>
        intro k
        cases h with
        | cons a b => cases k with
          | zero => simp; exact .cons a b
          | succ k => exact ih b k
    exact (drop hr k).le le
/- functions of ints -/
theorem ol_int {n : Int} {Q : AV → DS → Prop} (h : Q (.d (.int n)) D) : OL prog w C E Rv (fun vs => call (.type "int") vs) [.d (.int n)] D Q := ol1 fun s u d r1 => by
  obtain ⟨t, rfl⟩ := r1.int_; exact call_int_int (.here d (.d (.int _ _)) h)
theorem ol_abs {n : Int} {Q : AV → DS → Prop} (h : Q (.d (.int (if n < 0 then -n else n))) D) : OL prog w C E Rv (fun vs => call (.builtin "abs") vs) [.d (.int n)] D Q := ol1 fun s u d r1 => by
  obtain ⟨t, rfl⟩ := r1.int_; exact PyProof.Rows.call_abs_int fun u tk => .intro ⟨.toks _ _, d.toks _⟩ (.d (.int _ _)) h
theorem ol_lenTup {l : List AV} {Q : AV → DS → Prop} (hz : l.length ≤ 2 ^ 20) (h : Q (.d (.int l.length)) D) : OL prog w C E Rv (fun vs => call (.builtin "len") vs) [.tup l] D Q := ol1 fun s u d r1 => by
      cases r1 with
      | @tup a o vs n _ ho hc hd hr =>
        have hz' : vs.size = l.length := by have := hr.length; simpa using this
        exact PyProof.Rows.len_tuple ⟨o, ho, hc, n, hd⟩ (by rw [hz']; omega) (.intro ⟨.toks _ _, d.toks _⟩ (.d (by rw [hz']; exact .int _ _)) h)
/- a list that is only known to be one: items read and written -/
theorem Den.lwAt {i : Nat} {a : Addr} {l : List AV} {s : Shared} (d : Den C D s) (hi : D.rs[i]? = some (one prog w a (.lw l))) : ∃ vs, s.heap.IsList a vs ∧ RvL s.heap vs.toList l :=
  (d.regs _ (mem_of_get hi) : RO prog w s.heap a (.lw l))
theorem list_lw {a : Addr} {l : List AV} (h : Heap) (x : (one prog w a (.list l)).P h) : (one prog w a (.lw l)).P h :=
  let ⟨vs, n, e, r⟩ := (x : RO prog w h a (.list l)); ⟨vs, ⟨_, e, rfl, n, rfl⟩, r⟩
theorem g_lw {i : Nat} {a : Addr} {l : List AV} (k : Int) {x : AV} {Q : AV → DS → Prop} (hi : D.rs[i]? = some (one prog w a (.lw l))) (h0 : 0 ≤ k) (h1 : k < 2 ^ 63) (hx : l[k.toNat]? = some x) (h : Q x D) :
    O2 prog w C E Rv getItem (.v (.ref a)) (.d (.int k)) D Q := o2vi fun s t d => by
  obtain ⟨vs, hl, hr⟩ := d.lwAt hi
  obtain ⟨z, z1, z2⟩ := hr.get hx
  exact wpAny_getItem_list hl h0 h1 (x := z) (by simpa using z1) (.here d z2 h)
theorem i_lw {v sl : Expr} {i : Nat} {a : Addr} {k : Int} {l : List AV} {x : AV} {Q : AV → DS → Prop} (hi : D.rs[i]? = some (one prog w a (.lw l))) (h0 : 0 ≤ k) (h1 : k < 2 ^ 63) (hx : l[k.toNat]? = some x) (h : Q x D)
    (hs : PlainSub sl := by intro _ _ _; rfl) : O2 prog w C E Rv (PyProof.Rows.subscriptTail v sl) (.v (.ref a)) (.d (.int k)) D Q := o2vi fun s t d => by
  obtain ⟨vs, hl, hr⟩ := d.lwAt hi
  obtain ⟨z, z1, z2⟩ := hr.get hx
  exact PyProof.Rows.tail_any (T := "list") hl.typeIs slot_list_getitem.lookup (wpAny_getItem_list hl h0 h1 (x := z) (by simpa using z1) (.here d z2 h)) (hs _ _ _)
theorem u_setLw {i : Nat} {a : Addr} {k : Nat} {l : List AV} {x : AV} {Q : DS → Prop} (hi : D.rs[i]? = some (one prog w a (.lw l))) (hk : k < l.length) (hz : l.length ≤ 10000) (h : Q ⟨D.m, D.rs.set i (one prog w a (.lw (l.set k x)))⟩) :
    O3 prog w C E Ru (fun v ov iv => setItem ov iv v) x (.v (.ref a)) (.d (.int k)) D (KU Q) := fun s u v y d r1 r2 r3 => by
  obtain rfl := r2.v_
  obtain ⟨t, rfl⟩ := r3.int_
  obtain ⟨vs, hl, hr⟩ := d.lwAt hi
  have hz' : vs.size = l.length := by have := hr.length; simpa using this
  refine wpAny_setItem_list hl (by omega) (by omega) (by omega) fun h' hl' hs => ?_
  have le : Le s.heap h' := fun b o e t => (hs.2 b (fun q => by
    subst q
    obtain ⟨o', e', hc, _⟩ := hl
    rw [e] at e'; cases e'; have := t.1; rw [hc] at this; simp at this)).trans e
  refine .intro (b := ()) (d.upd hi (r' := one prog w a (.lw (l.set k x))) (tk := s.toks) rfl (fun b o q e => (hs.2 b (by simpa [one] using q)).trans e) (Nat.le_of_eq hs.1.symm) ⟨_, hl', ?_⟩) trivial h
  rw [Array.toList_setIfInBounds, Int.toNat_natCast]
  exact (hr.le le).set k (r1.le le)
section
variable (prog w C E)
noncomputable abbrev AI4' (oa ia : AV) (Q : DS → Prop) (new : AV) (D : DS) : Prop := P3 prog w C E Ru (fun v ov iv => setItem ov iv v) (KU Q) new oa ia D
noncomputable abbrev AI3 (value : Sem Value) (op : Operator) (oa ia : AV) (Q : DS → Prop) (old : AV) (D : DS) : Prop := GW prog w C E Rv value (P2 prog w C E Rv (inplaceOp op) (AI4' prog w C E oa ia Q) old) D
noncomputable abbrev AI2 (value : Sem Value) (op : Operator) (oa : AV) (Q : DS → Prop) (ia : AV) (D : DS) : Prop := P2 prog w C E Rv getItem (AI3 prog w C E value op oa ia Q) oa ia D
noncomputable abbrev AI1 (i value : Sem Value) (op : Operator) (Q : DS → Prop) (oa : AV) (D : DS) : Prop := GW prog w C E Rv i (AI2 prog w C E value op oa Q) D
end
/-- an item of something, changed in place -/
theorem s_augItem {o i value : Expr} {tpos : Pos} {op : Operator} {Q : FL → DS → Prop}
    (h : EV prog w C E (eval o env) D (AI1 prog w C E (eval i env) (eval value env) op (Q .next)))
    (hi : ∀ ov iv new, augStore i ov iv new = (do holding [new, ov, iv] (setItem ov iv new); release [new, ov, iv] []; pure .next) := by intros; rfl) :
    SV prog w C E (exec (.AugAssign (.Subscript o i tpos) op value pos) env) D Q := fun s d => by
  refine wpAny_AugAssign_SubscriptAny (wpAny_mono (h s d) (fun ov s₁ p => ?_) fun _ _ x => x) hi
  obtain ⟨n1, oa, D₁, d₁, r₁, p⟩ := p
  refine wpAny_mono (p s₁ d₁) (fun iv s₂ p => ?_) fun _ _ x => x
  obtain ⟨n2, ia, D₂, d₂, r₂, p⟩ := p
  refine wpAny_mono (p s₂ ov iv d₂ (r₁.le n2.1) r₂) (fun old s₃ p => ?_) fun _ _ x => x
  obtain ⟨n3, olda, D₃, d₃, r₃, p⟩ := p
  refine wpAny_mono (p s₃ d₃) (fun v s₄ p => ?_) fun _ _ x => x
  obtain ⟨n4, va, D₄, d₄, r₄, p⟩ := p
  refine wpAny_mono (p s₄ old v d₄ (r₃.le n4.1) r₄) (fun new s₅ p => ?_) fun _ _ x => x
  obtain ⟨n5, na, D₅, d₅, r₅, p⟩ := p
  have l2 : Le s₂.heap s₅.heap := n3.1.trans (n4.1.trans n5.1)
  refine wpAny_mono (p s₅ new ov iv d₅ r₅ (r₁.le (n2.1.trans l2)) (r₂.le l2)) (fun _ s₆ p => ?_) fun _ _ x => x
  obtain ⟨n6, _, D₆, d₆, _, q⟩ := p
  exact ⟨n1.trans (n2.trans (n3.trans (n4.trans (n5.trans n6)))), .next, D₆, d₆, .next, q⟩
end
end Mine
end
section
open PySem PySem.W
set_option maxRecDepth 100000
namespace Mine
section
variable {prog : Program} {w : World} {C : Cx w} {E : Value → Shared → Prop} {D : DS} {env : Env} {pos : Pos}
inductive CutN {w : World} (C : Cx w) (Mid : DS → Prop) (D : DS) : Prop
  | mk (D' : DS) (t : ∀ s, Den C D s → Den C D' s) (m : Mid D') : CutN C Mid D
/-- a statement, then the rest from what it left -/
theorem ss_cut {st : Stmt} {rest : List Stmt} {Q : FL → DS → Prop} (Mid : DS → Prop) (h : SV prog w C E (exec st env) D (SK (CutN C Mid) Q)) (h2 : ∀ D₁, Mid D₁ → SV prog w C E (execs rest env) D₁ Q) :
    SV prog w C E (execs (st :: rest) env) D Q := ss_cons (h.mono fun f D₁ q => by
  cases f with
  | next => exact let ⟨D', t, m⟩ := q; GV.less t (h2 D' m)
  | brk => exact q
  | cont => exact q
  | ret a => exact q)
structure LwK (prog : Program) (w : World) (Q : AV → DS → Prop) (l : List AV) (D : DS) : Prop where
  h : l.length ≤ 1000
  q : ∀ a, Q (.v (.ref a)) ⟨D.m, D.rs ++ [one prog w a (.lw l)]⟩
/-- a list of which no more is known than that it is one -/
theorem e_listLw {elts : List Expr} {Q : AV → DS → Prop} (h : LV prog w C E (spliced (backTo pos (starEach elts env))) D (LwK prog w Q)) :
    EV prog w C E (eval (.List elts pos) env) D Q := fun s d =>
  wpAny_mono (e_list (Q := fun av D' => ∃ a l D₁, av = .v (.ref a) ∧ D' = ⟨D₁.m, D₁.rs ++ [one prog w a (.list l)]⟩ ∧ Q (.v (.ref a)) ⟨D₁.m, D₁.rs ++ [one prog w a (.lw l)]⟩)
    (h.mono fun l D₁ q => ⟨q.1, fun a => ⟨a, l, D₁, rfl, rfl, q.2 a⟩⟩) s d) (fun v s' p => by
    obtain ⟨n, _, _, d', r, a, l, D₁, rfl, rfl, q⟩ := p
    refine ⟨n, _, _, d'.weak (i := D₁.rs.length) (r' := one prog w a (.lw l)) get_last rfl (fun h x => list_lw h x), r, ?_⟩
    show Q _ ⟨D₁.m, (D₁.rs ++ [one prog w a (.list l)]).set D₁.rs.length (one prog w a (.lw l))⟩
    rw [set_last]; exact q) fun _ _ x => x
/-- a call of a builtin by its name -/
theorem e_bcall {x : Str} {p : Pos} {es : List Expr} {f : Value} {Q : AV → DS → Prop} (h : LV prog w C E (spliced (backTo pos (starEach es env))) D (PL prog w C E Rv (fun vs => call f vs) Q)) (kp : Kp w f)
    (e : nsIn (KK w) mainGlobals x = some none := by kernel_rfl) (hv : bootBuiltins x = some f := by rfl) (hn : x ≠ "__name__" := by decide)
    (hk : env.scope.kind = .function := by rfl) (hx : env.kindOf x = some .globalImplicit := by rfl) (hd : (x == ("__debug__" : Str)) = false := by decide) (hg : env.globals = mainGlobals := by rfl)
    (hb : env.builtins = builtinsNs := by rfl) (he : (backTo pos (starEach es env)).all (fun x => !x.1) = true := by rfl) : EV prog w C E (eval (.Call (.Name x p) es [] pos) env) D Q :=
  e_call (e_builtin e hv hn ⟨f, rfl, kp, h⟩ hk hx hd hg hb) he
/-- a call of an own function by its name -/
theorem e_fcall {x : Str} {p : Pos} {es : List Expr} (f : Addr) {Q : AV → DS → Prop} (h : LV prog w C E (spliced (backTo pos (starEach es env))) D (PL prog w C E Rv (fun vs => call (.ref f) vs) Q))
    (e : nsIn (KK w) mainGlobals x = some (some (.ref f)) := by kernel_rfl) (kp : keepIn (KK w) (.ref f) = true := by kernel_rfl)
    (hk : env.scope.kind = .function := by rfl) (hx : env.kindOf x = some .globalImplicit := by rfl) (hd : (x == ("__debug__" : Str)) = false := by decide) (hg : env.globals = mainGlobals := by rfl)
    (he : (backTo pos (starEach es env)).all (fun x => !x.1) = true := by rfl) : EV prog w C E (eval (.Call (.Name x p) es [] pos) env) D Q :=
  e_call (e_glob e (.v _) ⟨.ref f, rfl, kp_K kp, h⟩ hk hx hd hg) he
theorem ol_lenLw {i : Nat} {a : Addr} {l : List AV} {Q : AV → DS → Prop} (hi : D.rs[i]? = some (one prog w a (.lw l))) (hz : l.length ≤ 2 ^ 20) (h : Q (.d (.int l.length)) D) : OL prog w C E Rv (fun vs => call (.builtin "len") vs) [.v (.ref a)] D Q := olv1 fun s d => by
      obtain ⟨vs, hl, hr⟩ := d.lwAt hi
      have hz' : vs.size = l.length := by have := hr.length; simpa using this
      exact PyProof.Rows.len_list hl (by rw [hz']; omega) (.intro ⟨.toks _ _, d.toks _⟩ (.d (by rw [hz']; exact .int _ _)) h)
end
end Mine
end
section
open PySem PySem.W
set_option maxRecDepth 100000
namespace Mine
noncomputable abbrev nums (l : List Int) : List AV := l.map fun n => .d (.int n)
noncomputable abbrev poolRs (prog : Program) (w : World) (a b : Addr) (figs : List Int) (pos mix : Int) : List Reg :=
  [one prog w a (.lw [.v (.ref b), .d (.int pos), .d (.int mix)]), one prog w b (.list (nums figs))]
noncomputable def PoolQ (prog : Program) (w : World) (a b : Addr) (figs : List Int) (bound : Int) (av : AV) (rs' : List Reg) (nw : List Reg) : Prop :=
  ∃ k pos mix : Int, av = .d (.int k) ∧ 0 ≤ k ∧ k < bound ∧ 0 ≤ pos ∧ pos ≤ figs.length ∧ rs' = poolRs prog w a b figs pos mix ∧ nw = []
theorem PoolQ.el {prog : Program} {w : World} {a b : Addr} {figs : List Int} {bound : Int} {X : AV → List Reg → List Reg → Prop}
    (h : ∀ k pos mix : Int, 0 ≤ k → k < bound → 0 ≤ pos → pos ≤ figs.length → X (.d (.int k)) (poolRs prog w a b figs pos mix) []) : ∀ av rs' nw, PoolQ prog w a b figs bound av rs' nw → X av rs' nw := by
  rintro _ _ _ ⟨k, pos, mix, rfl, k0, k1, p0, p1, rfl, rfl⟩
  exact h k pos mix k0 k1 p0 p1
section
variable {prog : Program} {w : World}
set_option maxHeartbeats 2000000
theorem fn_pick (a b : Addr) (figs : List Int) (pos mix bound : Int) (hz : figs.length ≤ 1000) (h0 : 0 ≤ pos) (h1 : pos ≤ figs.length) (hb : 0 < bound) :
    Fn prog w (.ref 363) 1 [.v (.ref a), .d (.int bound)] (poolRs prog w a b figs pos mix) (PoolQ prog w a b figs bound) := by
  refine fn_body ["pool", "bound"] ["figure"] (by rfl) (by rfl) (by kernel_rfl) ?_ (by rfl) (by decide) (by decide) (by decide) ?_ (by rfl) (by rfl) (by rfl)
  · intro vals h
    obtain ⟨a, b, rfl⟩ := len2 h
    rfl
  intro C hC ho
  have hlen : (nums figs).length = figs.length := by simp
  refine ss_cut (fun D₁ => ∃ k pos' mix' : Int, D₁ = ⟨[("pool", some (.v (.ref a))), ("bound", some (.d (.int bound))), ("figure", some (.d (.int k)))], poolRs prog w a b figs pos' mix'⟩ ∧ 0 ≤ pos' ∧ pos' ≤ figs.length) ?_ ?_
  rotate_left
  · rintro _ ⟨k, pos', mix', rfl, p0, p1⟩
    refine ss_cons (s_ret (e_bin (e_loc (i := 2) (by rfl) (e_loc (i := 1) (by rfl) (o_mod (by omega) ?_)))))
    exact ⟨poolRs prog w a b figs pos' mix', [], [], .refl _, rfl, k.fmod bound, pos', mix', rfl, Int.fmod_nonneg_of_pos _ hb, Int.fmod_lt_of_pos _ hb, p0, p1, rfl, rfl⟩
  refine s_if <| b_cmp <| e_sub <| e_loc (i := 0) (by rfl) <| e_int <| i_lw (i := 0) (by rfl) (by decide) (by decide) (by rfl) ?_
  refine e_bcall (l_cons <| e_sub <| e_loc (i := 0) (by rfl) <| e_int <| i_lw (i := 0) (by rfl) (by decide) (by decide) (by rfl) <| l_nil <| ol_len (i := 1) (by rfl) (by rw [hlen]; omega) ?_) kp_builtin
  rw [hlen]
  refine o_lt ⟨_, rfl, fun hlt => ?_, fun hlt => ?_⟩
  · have hlt : pos < figs.length := by simpa using hlt
    obtain ⟨x, hx⟩ : ∃ x, figs[pos.toNat]? = some x := ⟨_, List.getElem?_eq_getElem (by omega)⟩
    refine ss_cons <| s_assign (i := 2) <| e_sub <| e_sub <| e_loc (i := 0) (by rfl) <| e_int <| i_lw (i := 0) (by rfl) (by decide) (by decide) (by rfl) ?_
    refine e_sub <| e_loc (i := 0) (by rfl) <| e_int <| i_lw (i := 0) (by rfl) (by decide) (by decide) (by rfl) ?_
    refine i_list (i := 1) (by rfl) h0 (by omega) (x := .d (.int x)) (by simp [hx]) ⟨⟨_, by rfl⟩, ?_⟩
    refine ss_cons <| s_augItem <| e_loc (i := 0) (by rfl) <| e_int <| g_lw (i := 0) 1 (by rfl) (by decide) (by decide) (by rfl) <| e_int <| o_iadd ?_
    refine u_setLw (i := 0) (k := 1) (by rfl) (by simp) (by simp) ?_
    exact ss_nil ⟨_, fun _ d => d, x, pos + 1, mix, rfl, by omega, by omega⟩
  · refine ss_cons <| s_if <| b_cmp <| e_bcall (l_cons <| e_sub <| e_loc (i := 0) (by rfl) <| e_int <| i_lw (i := 0) (by rfl) (by decide) (by decide) (by rfl) <| l_nil <| ol_len (i := 1) (by rfl) (by rw [hlen]; omega) ?_) kp_builtin
    rw [hlen]
    refine e_int <| o_lt ⟨_, rfl, fun hlt2 => ?_, fun hlt2 => ?_⟩
    · exact ss_cons <| s_assign (i := 2) <| e_int ⟨⟨_, by rfl⟩, ss_nil <| ss_nil ⟨_, fun _ d => d, 0, pos, mix, rfl, h0, h1⟩⟩
    · refine ss_cons <| s_setitem <| e_bin <| e_bin <| e_bin <| e_sub <| e_loc (i := 0) (by rfl) <| e_int <| i_lw (i := 0) (by rfl) (by decide) (by decide) (by rfl) <| e_int <| o_mul (by decide) <| e_int <| o_add <| e_int <| o_mod (by decide) ?_
      refine e_loc (i := 0) (by rfl) <| e_int <| u_setLw (i := 0) (k := 2) (by rfl) (by simp) (by simp) ?_
      refine ss_cons <| s_assign (i := 2) <| e_sub <| e_loc (i := 0) (by rfl) <| e_int <| i_lw (i := 0) (by rfl) (by decide) (by decide) (by rfl) ⟨⟨_, by rfl⟩, ?_⟩
      exact ss_nil <| ss_nil ⟨_, fun _ d => d, _, pos, _, rfl, h0, h1⟩
end
end Mine
end
section
open PySem PySem.W
set_option maxRecDepth 100000
namespace Mine
/-- the script, as the law's caller laid it -/
noncomputable def Script (sa : Addr) (ns : List Int) (h : Heap) : Prop := ns.length ≤ 63 ∧ ∃ vs : List Value, h.IsList sa vs.toArray ∧ PyProof.Rows.IntsAre vs ns
theorem intsAre_rv {h : Heap} : ∀ {vs : List Value} {ns : List Int}, PyProof.Rows.IntsAre vs ns → RvL h vs (nums ns)
  | _, _, .nil => .nil
  | _, _, .cons n t r => .cons (.d (.int n t)) (intsAre_rv r)
theorem Script.now {prog : Program} {w : World} {C : Cx w} {D : DS} {sa : Addr} {ns : List Int} (x : Script sa ns C.h₁) : ListNow C D sa (nums ns) := fun s d => by
  obtain ⟨_, vs, ⟨o, ho, r⟩, hi⟩ := x
  exact ⟨vs, ⟨o, d.base _ _ ho, r⟩, intsAre_rv hi⟩
section
variable {prog : Program} {w : World}
set_option maxHeartbeats 4000000
theorem fn_pool (sa : Addr) (ns : List Int) :
    FnH prog w (Script sa ns) (.ref 356) 1 [.v (.ref sa)] [] (fun av _ nw => ∃ a b figs mix, av = .v (.ref a) ∧ figs.length ≤ 1000 ∧ nw = poolRs prog w a b figs 0 mix) := by
  refine fn_bodyH ["script"] ["figures", "mix", "cell", "whole", "rest", "step"] (by rfl) (by rfl) (by kernel_rfl) ?_ (by rfl) (by decide) (by decide) (by decide) ?_ (by rfl) (by rfl) (by rfl)
  · intro vals h
    obtain ⟨a, rfl⟩ := len1 h
    rfl
  intro C hC ho hs
  refine ss_cons <| s_assign (i := 1) <| e_list <| l_nil ⟨by decide, fun b => ⟨⟨_, by rfl⟩, ?_⟩⟩
  refine ss_cons <| s_assign (i := 2) <| e_int ⟨⟨_, by rfl⟩, ?_⟩
  refine ss_cut (fun D₁ => ∃ figs mix, figs.length ≤ 1000 ∧ D₁ = ⟨[("script", some (.v (.ref sa))), ("figures", some (.v (.ref b))), ("mix", some (.d (.int mix))), ("cell", none), ("whole", none), ("rest", none), ("step", none)], [one prog w b (.list (nums figs))]⟩) ?_ ?_
  rotate_left
  · rintro _ ⟨figs, mix, hf, rfl⟩
    refine ss_cons <| s_ret <| e_listLw <| l_cons <| e_loc (i := 1) (by rfl) <| l_cons <| e_int <| l_cons <| e_loc (i := 2) (by rfl) <| l_nil ⟨by simp, fun a => ?_⟩
    exact ⟨[], poolRs prog w a b figs 0 mix, [], List.Perm.swap _ _ _, rfl, a, b, figs, mix, rfl, hf, rfl⟩
  refine s_for <| e_upto <| e_loc (i := 0) (by rfl) <| e_int ⟨sa, nums ns, 40, rfl, rfl, hs.now (prog := prog), ?_, fun c => ?_⟩
  · have := hs.1; simp; omega
  refine oi_list (i := 1) (l := (nums ns).take 40) (by rfl) fun I => ⟨srcList prog C I c ((nums ns).take 40), rfl,
    fun _ D' => ∃ figs mix, figs.length ≤ 400 ∧ D' = ⟨[("script", some (.v (.ref sa))), ("figures", some (.v (.ref b))), ("mix", some (.d (.int mix))), ("cell", none), ("whole", none), ("rest", none), ("step", none)], [one prog w b (.list (nums figs)), one prog w c (.list ((nums ns).take 40))]⟩, ?_, ?_, ?_, ?_⟩
  · rintro k _ ⟨figs, mix, hf, rfl⟩ r hr
    rw [List.mem_singleton.mp hr]; exact .tail _ (.head _)
  · exact ⟨_, to_of, [], 5, by simp, rfl⟩
  rotate_left
  · rintro _ ⟨figs, mix, hf, rfl⟩
    exact ⟨_, to_of, figs, mix, by omega, rfl⟩
  rintro k x _ hx ⟨figs, mix, hf, rfl⟩
  obtain ⟨cell, rfl⟩ : ∃ n : Int, x = .d (.int n) := by
    have := List.mem_of_getElem? hx
    obtain ⟨n, _, e⟩ := List.mem_map.mp (List.mem_of_mem_take this)
    exact ⟨n, e.symm⟩
  refine as_name (i := 3) (by rfl) ?_
  refine ss_cons <| s_assign (i := 4) <| e_bcall (l_cons <| e_loc (i := 3) (by rfl) <| l_nil <| ol_int ⟨⟨_, by rfl⟩, ?_⟩) kp_type
  refine ss_cons <| s_assign (i := 2) <| e_bin <| e_bin <| e_bin <| e_loc (i := 2) (by rfl) <| e_int <| o_mul (by decide) <| e_loc (i := 4) (by rfl) <| o_add <| e_int <| o_mod (by decide) ⟨⟨_, by rfl⟩, ?_⟩
  generalize (mix * 31 + cell).fmod 1009 = mix'
  refine ss_cons <| s_assign (i := 5) <| e_bcall (l_cons <| e_loc (i := 4) (by rfl) <| l_nil <| ol_abs ⟨⟨_, by rfl⟩, ?_⟩) kp_builtin
  generalize (if cell < 0 then -cell else cell) = rest
  refine ss_cut (fun D₁ => ∃ figs, figs.length ≤ 500 ∧ D₁ = ⟨[("script", some (.v (.ref sa))), ("figures", some (.v (.ref b))), ("mix", some (.d (.int mix'))), ("cell", none), ("whole", none), ("rest", none), ("step", none)],
    [one prog w b (.list (nums figs)), one prog w c (.list ((nums ns).take 40)), itList I c (k + 1)]⟩) ?_ ?_
  rotate_left
  · rintro _ ⟨figs, hf, rfl⟩
    refine ss_cons <| s_if <| b_cmp <| e_bcall (l_cons <| e_loc (i := 1) (by rfl) <| l_nil <| ol_len (i := 0) (by rfl) (by simp; omega) <| e_int <| o_gt ⟨_, rfl, fun hg => ?_, fun hg => ?_⟩) kp_builtin
    · exact ss_cons <| s_brk ⟨_, to_of, figs, mix', by omega, rfl⟩
    · exact ss_nil <| ss_nil ⟨_, to_of, figs, mix', (by have h : (figs.length : Int) ≤ 400 := (by simpa using hg); omega), rfl⟩
  refine s_for <| e_bcall (l_cons <| e_int <| l_nil <| ol_range (n := 60) fun r => ?_) kp_type
  refine oi_rng (i := 3) (by rfl) (by decide) fun J => ⟨srcRng prog C J 60, rfl,
    fun k' D' => ∃ figs rest, figs.length ≤ 400 + k' ∧ D' = ⟨[("script", some (.v (.ref sa))), ("figures", some (.v (.ref b))), ("mix", some (.d (.int mix'))), ("cell", none), ("whole", none), ("rest", some (.d (.int rest))), ("step", none)],
      [one prog w b (.list (nums figs)), one prog w c (.list ((nums ns).take 40)), itList I c (k + 1)]⟩, fun _ _ _ _ h => (nomatch h), ⟨_, to_oS, figs, rest, hf, rfl⟩, ?_, ?_⟩
  rotate_left
  · rintro _ ⟨figs, rest, hf, rfl⟩
    exact ⟨_, to_of, figs, (by have h : figs.length ≤ 400 + 60 := (by simpa [srcRng] using hf); omega), rfl⟩
  rintro k' x _ hx ⟨figs, rest, hf, rfl⟩
  have hk' : k' < 60 := by simpa [srcRng] using (List.getElem?_eq_some_iff.mp hx).1
  refine as_name (i := 6) (by rfl) ?_
  refine ss_cons <| s_expr <| e_meth <| e_loc (i := 1) (by rfl) ⟨_, gm_append (i := 0) (by rfl), kp_builtin, ?_⟩
  refine l_cons <| e_bin <| e_loc (i := 5) (by rfl) <| e_int <| o_mod (by decide) <| l_nil <| ol_append (i := 0) (by rfl) (by simp; omega) ?_
  rw [show (nums figs ++ [AV.d (.int (rest.fmod 840))]) = nums (figs ++ [rest.fmod 840]) from by simp]
  refine ss_cons <| s_aug (i := 5) (by rfl) <| e_int <| o_idiv (by decide) (fun a => PyProof.noPylong_small (by decide)) ⟨_, by rfl, ?_⟩
  refine ss_cons <| s_if <| b_cmp <| e_loc (i := 5) (by rfl) <| e_int <| o_eq (by rfl) (by rfl) ⟨_, rfl, fun hg => ?_, fun hg => ?_⟩
  · exact ss_cons <| s_brk ⟨_, to_of, figs ++ [rest.fmod 840], by simp; omega, rfl⟩
  · exact ss_nil <| ss_nil ⟨_, to_of, figs ++ [rest.fmod 840], rest.fdiv 840, by simp; omega, rfl⟩
end
end Mine
end
section
open PySem PySem.W
set_option maxRecDepth 100000
namespace Mine
noncomputable abbrev Fs := List (Str × AV)
inductive Ents (h : Heap) : List DictEntry → Fs → Prop
  | nil : Ents h [] []
  | cons {e : DictEntry} {x : Str} {t : Tok} {a : AV} {es : List DictEntry} {fs : Fs} : e.key = .str x t → Rv h e.val a → Ents h es fs → Ents h (e :: es) ((x, a) :: fs)
theorem Ents.le {h h' : Heap} (k : Le h h') {es : List DictEntry} {fs : Fs} (x : Ents h es fs) : Ents h' es fs := by
  induction x with
  | nil => exact .nil
  | cons a b _ ih => exact .cons a (b.le k) ih
theorem Ents.noRef {h : Heap} {es : List DictEntry} {fs : Fs} (x : Ents h es fs) : es.any (·.refKey) = false := by
  induction x with
  | nil => rfl
  | @cons e _ _ _ _ _ a _ _ ih => rw [List.any_cons, ih, Bool.or_false]; obtain ⟨hh, k, v⟩ := e; simp only at a; subst a; rfl
noncomputable def getF (n : Str) : Fs → Option AV
  | [] => none
  | (x, a) :: r => if x == n then some a else getF n r
noncomputable def putF (n : Str) (a : AV) : Fs → Fs
  | [] => [(n, a)]
  | (x, b) :: r => if x == n then (x, a) :: r else (x, b) :: putF n a r
theorem Ents.get {h : Heap} {es : List DictEntry} {fs : Fs} (x : Ents h es fs) (n : Str) : (match getF n fs with | some a => ∃ v, getL n es = some (some v) ∧ Rv h v a | none => getL n es = some none) := by
  have key : ∀ {es : List DictEntry} {fs : Fs}, Ents h es fs → (match getF n fs with | some a => ∃ e, es.find? (·.key.isStr n) = some e ∧ Rv h e.val a | none => es.find? (·.key.isStr n) = none) := by
    intro es fs x
    induction x with
    | nil => rfl
    | @cons e y t a es fs hk hv _ ih =>
      have e1 : e.key.isStr n = (y == n) := by rw [hk]; rfl
      unfold getF
      rw [List.find?_cons, e1]
      cases q : y == n with
      | true => exact ⟨e, rfl, hv⟩
      | false => simpa using ih
  have := key x
  cases q : getF n fs with
  | some a => rw [q] at this; obtain ⟨e, h1, h2⟩ := this; exact ⟨e.val, by unfold getL; rw [h1], h2⟩
  | none => rw [q] at this; unfold getL; simp only; rw [show es.find? (·.key.isStr n) = none from this]; simp only; rw [x.noRef]; rfl
theorem Ents.put {h h' : Heap} (k : Le h h') {es : List DictEntry} {fs : Fs} (x : Ents h es fs) (n : Str) (hsh : Int) (t : Tok) {v : Value} {a : AV} (r : Rv h' v a) : Ents h' (putL n hsh (.str n t) v es) (putF n a fs) := by
  induction x with
  | nil => exact .cons (t := t) rfl r .nil
  | @cons e y t' b es fs hk hv tl ih =>
    have e1 : e.key.isStr n = (y == n) := by rw [hk]; rfl
    unfold putL putF
    rw [e1]
    cases q : y == n with
    | true => exact .cons hk r (tl.le k)
    | false => exact .cons hk (hv.le k) ih
theorem Ents.length {h : Heap} {es : List DictEntry} {fs : Fs} (x : Ents h es fs) : es.length = fs.length := by
  induction x with
  | nil => rfl
  | cons _ _ _ ih => simp [ih]
theorem putF_length (n : Str) (a : AV) : ∀ fs : Fs, (putF n a fs).length ≤ fs.length + 1
  | [] => by simp [putF]
  | (x, b) :: r => by
    unfold putF; split
    · simp
    · have := putF_length n a r; simp; exact this
/-- an object of a class, and its dict -/
noncomputable def instR (x dx C : Addr) (fs : Fs) : Reg where
  foot := [x, dx]
  P := fun h => h.get? x = some (instObj C dx) ∧ ∃ es n, h.get? dx = some (dictOf es n) ∧ Ents h es fs
  loc := fun k e ⟨a, es, n, b, c⟩ => ⟨e x (by simp) _ a, es, n, e dx (by simp) _ b, c.le k⟩
  live := fun ⟨a, es, n, b, c⟩ y hy => by
    rcases List.mem_cons.mp hy with rfl | hy
    · exact ⟨_, a, fun t => by have := t.1; simp at this⟩
    · rw [List.mem_singleton.mp hy]; exact ⟨_, b, fun t => by obtain ⟨_, xs, n, e⟩ := t; simp at e⟩
noncomputable def attrOk (K : Frag) (C : Addr) (name : Str) : Bool := plainGet K C name && hasDictIn K C && (match findIn K (.ref C) name with | some a => noGet K a | none => false)
noncomputable def methOk (K : Frag) (C : Addr) (name : Str) (f : Addr) : Bool := plainGet K C name && findIn K (.ref C) name == some (some (.ref f)) && isFn K (.ref f)
noncomputable def setOk (K : Frag) (C : Addr) (name : Str) : Bool := findIn K (.ref C) "__setattr__" == some (some (.builtin "object.__setattr__")) && plainOver K C && takerIn K C name == some none && (clsIn K C).any (·.hasDict)
noncomputable def makeOk (K : Frag) (C : Addr) (fI : Addr) : Bool := makesIn K C && findIn K (.ref C) "__init__" == some (some (.ref fI)) && typeIn K (.ref fI) == some (.type "function")
theorem handed_rv {h : Heap} {v : Value} {a : AV} (r : Rv h v a) (ha : ∀ u, a = .v u → handedIn u = true) : handedIn v = true := by
  cases r with
  | d r => cases r <;> rfl
  | v v => exact ha v rfl
  | tup _ _ _ _ => rfl
section
variable {prog : Program} {w : World} {C : Cx w} {E : Value → Shared → Prop} {D : DS} {env : Env} {pos : Pos}
theorem e_attr {value : Expr} {attr : Str} {Q : AV → DS → Prop} (h : EV prog w C E (eval value env) D (P1 prog w C E Rv (fun o => getAttr o attr true) Q))
    (he : eval (.Attribute value attr pos) env = (do
      let o ← eval value env
      standAt pos.atName
      let r ← holding [o] (getAttr o attr true)
      letTemporaryGo value o r
      pure r) := by with_unfolding_all rfl) : EV prog w C E (eval (.Attribute value attr pos) env) D Q := fun s d => PyProof.Rows.Attribute_any_ (seq1 d h) he
theorem Den.inst {i : Nat} {x dx c : Addr} {fs : Fs} {s : Shared} (d : Den C D s) (hi : D.rs[i]? = some (instR x dx c fs)) : ∃ es n, InstAt s.heap x (instObj c dx) c (some (dictOf es n)) ∧ s.heap.get? dx = some (dictOf es n) ∧ Ents s.heap es fs := by
  obtain ⟨a, es, n, b, e⟩ := d.regs _ (mem_of_get hi)
  exact ⟨es, n, ⟨a, rfl, rfl, b⟩, b, e⟩
/-- an attribute that the object holds -/
theorem o_attr {i : Nat} {x dx c : Addr} {fs : Fs} {attr : Str} {a : AV} {Q : AV → DS → Prop} (hi : D.rs[i]? = some (instR x dx c fs)) (hg : getF attr fs = some a) (h : Q a D) (ha : ∀ u, a = .v u → handedIn u = true := by (intro _ e; cases e; rfl))
    (hk : attrOk (KK w) c attr = true := by kernel_rfl) : O1 prog w C E Rv (fun o => getAttr o attr true) (.v (.ref x)) D Q := o1v fun s d => by
  obtain ⟨es, n, I, hd, en⟩ := d.inst hi
  have z := en.get attr
  rw [hg] at z
  obtain ⟨v, z1, z2⟩ := z
  unfold attrOk at hk
  simp only [Bool.and_eq_true] at hk
  obtain ⟨⟨k1, k2⟩, k3⟩ := hk
  split at k3
  · rename_i at' hf
    exact get_value d.K I (plainGet_of k1).1 (findObj_own k2 hf k3 z1) (handed_rv z2 ha) (.intro ⟨.toks _ _, d.toks _⟩ z2 h)
  · cases k3
/-- a method of the class -/
theorem gm_inst {i : Nat} {x dx c : Addr} {fs : Fs} {name : Str} (f : Addr) (hi : D.rs[i]? = some (instR x dx c fs)) (hg : getF name fs = none := by rfl) (hk : methOk (KK w) c name f = true := by kernel_rfl) : GM prog C E name (.v (.ref x)) (.ref f) D := fun s u pl P d r h => by
  obtain rfl := r.v_
  obtain ⟨es, n, I, hd, en⟩ := d.inst hi
  have z := en.get name
  rw [hg] at z
  unfold methOk at hk
  simp only [Bool.and_eq_true, beq_iff_eq] at hk
  obtain ⟨⟨k1, k2⟩, k3⟩ := hk
  exact method_fn d.K I (plainGet_of k1).1 (plainGet_of k1).2 k2 (beq_iff_eq.mp k3) (by show (lookIn name (dictOf es n)).map _ = _; rw [lookIn_dict, z]; rfl) h
theorem store_core {A : Around} {s : Shared} {K : Frag} {x c dx : Addr} {ox : Obj} {es : List DictEntry} {n : Nat} {name : Str} {v : Value} {tk : Tok} {R : Result → Shared → Prop} (X : K.In s.heap) (I : InstAt s.heap x ox c (some (dictOf es n))) (hd : ox.dict = some dx)
    (hk : setOk K c name = true) (hl : es.any (·.refKey) = false) (hz : (putL name (PyData.keyHash w.params name) (.str name s.toks) v es).length ≤ 1000)
    (h : s.heap.get? dx = some (dictOf es n) → (s.heap.update dx (Obj.putName name (PyData.keyHash w.params name) (.str name s.toks) v)).get? dx = some (dictOf (putL name (PyData.keyHash w.params name) (.str name s.toks) v es) (putN name es n)) →
      R (.ok (.ret .none)) { s with heap := s.heap.update dx (Obj.putName name (PyData.keyHash w.params name) (.str name s.toks) v), toks := s.toks + 1 }) :
    codeAny (model prog w) A (.call (.builtin "object.__setattr__") ⟨[.ref x, .str name tk, v], []⟩) R s := by
  unfold setOk at hk
  simp only [Bool.and_eq_true, beq_iff_eq] at hk
  obtain ⟨⟨⟨k1, k2⟩, k3⟩, k4⟩ := hk
  refine osa_open X I k2 k3 fun b => ?_
  obtain ⟨cd, hc, hd'⟩ := any_some k4
  obtain ⟨hx, hcl, hn, hdd⟩ := I
  obtain ⟨oc, odi, oda, osl⟩ := ox
  dsimp only at hcl hd hdd
  subst hcl hd
  have D0 : s.heap.get? dx = some (dictOf es n) := hdd
  have e0 := putName_dict name (PyData.keyHash w.params name) (.str name s.toks) v es n
  have D' : (s.heap.update dx (Obj.putName name (PyData.keyHash w.params name) (.str name s.toks) v)).get? dx = some (dictOf (putL name (PyData.keyHash w.params name) (.str name s.toks) v es) (putN name es n)) := by
    rw [← e0]; exact Heap.get?_update_self _ D0 (by rw [e0]; rfl)
  refine wpAny_bind (wpAny_pure (wpAny_bind (wpAny_bind (wpAny_loadPart hx (wpAny_bind ((looks_clsIn X hc).here ?_))))))
  rw [hd']
  refine wpAny_pure (a := some dx) (wpAny_bind (wpAny_pure (wpAny_bind ?_)))
  unfold nsSet
  refine wpAny_bind (wpAny_bind (wpAny_askSetting (wpAny_pure (wpAny_bind (wpAny_mkText (wpAny_bind (wpAny_loadPart D0 ?_)))))))
  dsimp only
  have nr : (!es.toArray.any (·.key.isStr name) && es.toArray.any (·.refKey)) = false := by
    have : es.toArray.any (·.refKey) = false := by rw [← Array.any_toList]; exact hl
    rw [this, Bool.and_false]
  rw [aRefKeyMayBeTheName_at, nr]
  refine wpAny_updatePart D0 ?_
  refine wpAny_bind (wpAny_lookBehind D' (pastItsLine_dict (by rw [List.size_toArray, sizeLine_eq]; omega)) ?_)
  exact wpAny_pure (h D0 D')
theorem set_core {A : Around} {s : Shared} {K : Frag} {x c dx : Addr} {ox : Obj} {es : List DictEntry} {n : Nat} {name : Str} {v : Value} {Q : Unit → Shared → Prop} (X : K.In s.heap) (I : InstAt s.heap x ox c (some (dictOf es n))) (hd : ox.dict = some dx)
    (hk : setOk K c name = true) (hl : es.any (·.refKey) = false) (hz : (putL name (PyData.keyHash w.params name) (.str name (s.toks + 1)) v es).length ≤ 1000)
    (h : s.heap.get? dx = some (dictOf es n) → (s.heap.update dx (Obj.putName name (PyData.keyHash w.params name) (.str name (s.toks + 1)) v)).get? dx = some (dictOf (putL name (PyData.keyHash w.params name) (.str name (s.toks + 1)) v es) (putN name es n)) →
      Q () { s with heap := s.heap.update dx (Obj.putName name (PyData.keyHash w.params name) (.str name (s.toks + 1)) v), toks := s.toks + 2 }) :
    wpAny (model prog w) A (setAttr (.ref x) name v) Q E s := by
  have hk' := hk
  unfold setOk at hk
  simp only [Bool.and_eq_true, beq_iff_eq] at hk
  exact set_plain X I hk.1.1.1 (store_core (s := { s with toks := s.toks + 1 }) X I hd hk' hl hz h)
theorem putL_length (n : Str) (hs : Int) (k v : Value) : ∀ es : List DictEntry, (putL n hs k v es).length ≤ es.length + 1
  | [] => by simp [putL]
  | e :: r => by
    unfold putL; split
    · simp
    · have := putL_length n hs k v r; simp; exact this
theorem u_attr {i : Nat} {x dx c : Addr} {fs : Fs} {name : Str} {a : AV} {Q : DS → Prop} (hi : D.rs[i]? = some (instR x dx c fs)) (h : Q ⟨D.m, D.rs.set i (instR x dx c (putF name a fs))⟩) (hz : fs.length ≤ 900 := by exact Nat.le_of_ble_eq_true (by with_unfolding_all rfl))
    (hk : setOk (KK w) c name = true := by kernel_rfl) : O2 prog w C E Ru (fun v ov => setAttr ov name v) a (.v (.ref x)) D (KU Q) := o2v2 fun s v d r1 => by
  obtain ⟨es, n, I, hd, en⟩ := d.inst hi
  have hx := I.at_
  refine set_core d.K I rfl hk en.noRef (Nat.le_trans (putL_length ..) (by rw [en.length]; omega)) fun D0 D' => ?_
  have ne : dx ≠ x := by
    have := d.rNodup
    intro e; subst e
    have h1 : (instR dx dx c fs).foot.Sublist (feet D.rs) := by
      obtain ⟨l1, l2, e⟩ := List.append_of_mem (mem_of_get hi)
      rw [e, feet_append, feet_cons]
      exact (List.sublist_append_left _ _).trans (List.sublist_append_right _ _)
    have h2 := h1.nodup this
    simp [instR] at h2
  have hk' : ∀ b o, b ≠ dx → s.heap.get? b = some o → (s.heap.update dx (Obj.putName name (PyData.keyHash w.params name) (.str name (s.toks + 1)) v)).get? b = some o := fun b o q e => (Heap.get?_update_other _ _ (Ne.symm q)).trans e
  have le : Le s.heap (s.heap.update dx (Obj.putName name (PyData.keyHash w.params name) (.str name (s.toks + 1)) v)) := fun b o e t => hk' b o (fun z => by
    subst z; rw [hd] at e; cases e; obtain ⟨_, xs, n, e⟩ := t; simp at e) e
  exact .intro (b := ()) (d.upd hi (r' := instR x dx c (putF name a fs)) rfl (fun b o q e => hk' b o (fun z => q (by subst z; exact .tail _ (.head _))) e) (by rw [Heap.size_after_update]; exact Nat.le_refl _)
    ⟨hk' x _ (Ne.symm ne) hx, _, _, D', en.put le _ _ _ (r1.le le)⟩) trivial h
theorem At.append {rs : List Reg} {is : List Nat} {l : List Reg} (h : At rs is l) (r : Reg) : At (rs ++ [r]) is l := by
  induction h with
  | nil => exact .nil
  | cons a _ ih => exact .cons (by rw [List.getElem?_append_left (List.getElem?_eq_some_iff.mp a).1]; exact a) ih
theorem At.lt {rs : List Reg} {is : List Nat} {l : List Reg} (h : At rs is l) : ∀ i ∈ is, i < rs.length := by
  induction h with
  | nil => intro _ h; cases h
  | cons a _ ih =>
    intro j hj
    rcases List.mem_cons.mp hj with rfl | hj
    · exact (List.getElem?_eq_some_iff.mp a).1
    · exact ih j hj
/-- a class is called: a new object, and its own __init__ -/
theorem ol_make {c fI : Addr} {n : Nat} {l : List AV} {rs : List Reg} {Q₀ : Addr → Addr → AV → List Reg → List Reg → Prop} {Q : AV → DS → Prop}
    (hf : ∀ x dx, Fn prog w (.ref fI) n (.v (.ref x) :: l) (instR x dx c [] :: rs) (Q₀ x dx)) (is : List Nat) (hi : At D.rs is rs)
    (h : ∀ x dx av rs' nw, Q₀ x dx av rs' nw → av = .d .none ∧ Q (.v (.ref x)) ⟨D.m, setAll (D.rs ++ [instR x dx c []]) (D.rs.length :: is) rs' ++ nw⟩)
    (hd : is.Nodup := by decide) (hn : n + 1 ≤ C.lv := by exact le_lv (by assumption) rfl) (hk : makeOk (KK w) c fI = true := by kernel_rfl) : OL prog w C E Rv (fun vs => call (.ref c) vs) l D Q := fun s vals d hv => by
  unfold makeOk at hk
  simp only [Bool.and_eq_true, beq_iff_eq] at hk
  obtain ⟨⟨k1, k2⟩, k3⟩ := hk
  have X := d.K
  have st := d.new (instR (s.heap.objs.size + 1) s.heap.objs.size c []) (h' := (s.heap.push emptyDict).push (instObj c s.heap.objs.size)) (tk := s.toks) (fun b o e => push_keeps _ _ _ _ (push_keeps _ _ _ _ e)) (by rw [Heap.size_push, Heap.size_push]; omega)
    ⟨Heap.get?_push_at (by rw [Heap.size_push]) rfl, [], 0, push_keeps _ _ _ _ (Heap.get?_push_size _ rfl), .nil⟩ (by simp [instR]) (by simp [instR])
  obtain ⟨hp, g, dd, t, os⟩ := s
  refine wpAny_call (make_core (makes_of X k1) (looks_findIn X k2) (fun self => bind_fn X self k3) (.inl rfl) ?_)
  have hi' : At (D.rs ++ [instR (hp.objs.size + 1) hp.objs.size c []]) (D.rs.length :: is) (instR (hp.objs.size + 1) hp.objs.size c [] :: rs) := .cons get_last (hi.append _)
  have nd : (D.rs.length :: is).Nodup := List.nodup_cons.mpr ⟨fun q => Nat.lt_irrefl _ (hi.lt _ q), hd⟩
  obtain ⟨n1, d1⟩ := st
  have pre : Pre (w := w) C.h₁ (C.A.under (.builtin "type.__call__" ⟨.ref c :: vals, []⟩)) n (instR (hp.objs.size + 1) hp.objs.size c [] :: rs) (.v (.ref (hp.objs.size + 1)) :: l)
      ⟨(hp.push emptyDict).push (instObj c hp.objs.size), g, dd, t, os⟩ (.ref (hp.objs.size + 1) :: vals) := by
    have p := Den.pre (n := n) d1 hi' nd (by omega) (A := C.A) (args := .v (.ref (hp.objs.size + 1)) :: l) (vals := .ref (hp.objs.size + 1) :: vals) C.handled (Nat.le_refl _) (Nat.le_refl _) (RvL.cons (.v _) (hv.le n1.1))
    have e1 : (C.A.under (.builtin "type.__call__" ⟨.ref c :: vals, []⟩)).depth = C.A.depth + 1 := rfl
    have e2 : (C.A.under (.builtin "type.__call__" ⟨.ref c :: vals, []⟩)).units = C.A.units + 1 := rfl
    exact { p with handled := C.handled, depth := by rw [e1]; have := C.depth; omega, units := by rw [e2]; have := C.units; omega }
  refine codeAny_mono (hf (hp.objs.size + 1) hp.objs.size C.h₁ _ _ _ pre) fun r s' q => ?_
  cases r with
  | error e => exact q.elim
  | ok fl => cases fl with
    | ret v =>
      obtain ⟨n2, av, D₂, d2, rv, rfl, q⟩ := Den.callPost (Q := fun av D₂ => av = .d .none ∧ Q (.v (.ref (hp.objs.size + 1))) D₂) d1 hi' (fun av rs' nw q0 => h _ _ av rs' nw q0) q
      exact ⟨rv.none_, n1.trans n2, _, D₂, d2, .v _, q⟩
    | _ => exact q.elim
end
end Mine
end
section
open PySem PySem.W
set_option maxRecDepth 100000
namespace Mine
section
variable {K V : Type} [DecidableEq K]
noncomputable def at_ (kvs : List (K × V)) (k : K) : Option V := (kvs.find? fun kv => decide (kv.1 = k)).map (·.2)
noncomputable def put_ (kvs : List (K × V)) (k : K) (a : V) : List (K × V) := if (at_ kvs k).isSome then kvs.map (fun kv => if kv.1 = k then (kv.1, a) else kv) else kvs ++ [(k, a)]
noncomputable def del_ (kvs : List (K × V)) (k : K) : List (K × V) := kvs.filter fun kv => decide (kv.1 ≠ k)
inductive KR (h : Heap) : List (K × Value) → List (K × AV) → Prop
  | nil : KR h [] []
  | cons {k : K} {v : Value} {a : AV} {xs : List (K × Value)} {kvs : List (K × AV)} : Rv h v a → KR h xs kvs → KR h ((k, v) :: xs) ((k, a) :: kvs)
theorem KR.of {h : Heap} {xs : List (K × Value)} {kvs : List (K × AV)} (e : xs.map (·.1) = kvs.map (·.1)) (r : RvL h (xs.map (·.2)) (kvs.map (·.2))) : KR h xs kvs := by
  induction xs generalizing kvs with
  | nil => rw [List.map_eq_nil_iff.mp e.symm]; exact .nil
  | cons x xs ih =>
    cases kvs with
    | nil => cases e
    | cons y kvs =>
      obtain ⟨k, v⟩ := x
      obtain ⟨k', a⟩ := y
      have e1 : k = k' := (List.cons.inj e).1
      subst e1
      exact .cons r.hd (ih (List.cons.inj e).2 r.tl)
theorem KR.to {h : Heap} {xs : List (K × Value)} {kvs : List (K × AV)} (x : KR h xs kvs) : xs.map (·.1) = kvs.map (·.1) ∧ RvL h (xs.map (·.2)) (kvs.map (·.2)) := by
  induction x with
  | nil => exact ⟨rfl, .nil⟩
  | cons r _ ih => exact ⟨by simp [ih.1], .cons r ih.2⟩
theorem KR.le {h h' : Heap} (k : Le h h') {xs : List (K × Value)} {kvs : List (K × AV)} (x : KR h xs kvs) : KR h' xs kvs := by
  induction x with
  | nil => exact .nil
  | cons r _ ih => exact .cons (r.le k) ih
theorem KR.length {h : Heap} {xs : List (K × Value)} {kvs : List (K × AV)} (x : KR h xs kvs) : xs.length = kvs.length := by
  induction x with
  | nil => rfl
  | cons _ _ ih => simp [ih]
theorem KR.at {h : Heap} {xs : List (K × Value)} {kvs : List (K × AV)} (x : KR h xs kvs) (k : K) : (match at_ kvs k with | some a => ∃ v, valueAt xs k = some v ∧ Rv h v a | none => valueAt xs k = none) := by
  unfold at_ valueAt
  induction x with
  | nil => rfl
  | @cons k' v a xs kvs r _ ih =>
    rw [List.find?_cons, List.find?_cons]
    by_cases e : k' = k
    · simp only [e, decide_true]; exact ⟨v, rfl, r⟩
    · simp only [e, decide_false]; exact ih
theorem KR.mapPut {h : Heap} {xs : List (K × Value)} {kvs : List (K × AV)} (x : KR h xs kvs) (k : K) {v : Value} {a : AV} (r : Rv h v a) : KR h (xs.map fun kv => if kv.1 = k then (kv.1, v) else kv) (kvs.map fun kv => if kv.1 = k then (kv.1, a) else kv) := by
  induction x with
  | nil => exact .nil
  | @cons k' _ _ _ _ r' _ ih =>
    rw [List.map_cons, List.map_cons]
    by_cases e : k' = k
    · simp only [e, if_true]; exact .cons r ih
    · simp only [e, if_false]; exact .cons r' ih
theorem KR.snoc {h : Heap} {xs : List (K × Value)} {kvs : List (K × AV)} (x : KR h xs kvs) (k : K) {v : Value} {a : AV} (r : Rv h v a) : KR h (xs ++ [(k, v)]) (kvs ++ [(k, a)]) := by
  induction x with
  | nil => exact .cons r .nil
  | cons r' _ ih => exact .cons r' ih
theorem any_valueAt (xs : List (K × Value)) (k : K) : xs.any (fun kv => kv.1 = k) = (valueAt xs k).isSome := by
  unfold valueAt
  rw [Option.isSome_map]
  induction xs with
  | nil => rfl
  | cons x xs ih =>
    rw [List.any_cons, List.find?_cons]
    cases q : decide (x.1 = k) with
    | true => rfl
    | false => rw [Bool.false_or]; exact ih
theorem KR.put {h : Heap} {xs : List (K × Value)} {kvs : List (K × AV)} (x : KR h xs kvs) (k : K) {v : Value} {a : AV} (r : Rv h v a) : KR h (stored xs k v) (put_ kvs k a) := by
  have z := x.at k
  unfold stored put_
  rw [any_valueAt]
  cases q : at_ kvs k with
  | some b => rw [q] at z; obtain ⟨u, z, _⟩ := z; rw [z]; exact x.mapPut k r
  | none => rw [q] at z; rw [z]; exact x.snoc k r
theorem KR.del {h : Heap} {xs : List (K × Value)} {kvs : List (K × AV)} (x : KR h xs kvs) (k : K) : KR h (without xs k) (del_ kvs k) := by
  unfold without del_
  induction x with
  | nil => exact .nil
  | @cons k' _ _ _ _ r' _ ih =>
    rw [List.filter_cons, List.filter_cons]
    by_cases e : k' = k
    · simp only [e, ne_eq, not_true, decide_false, Bool.false_eq_true, if_false]; exact ih
    · simp only [e, ne_eq, not_false_eq_true, decide_true, if_true]; exact .cons r' ih
inductive KRH (h : Heap) : List (K × Addr × Value) → List (K × AV) → Prop
  | nil : KRH h [] []
  | cons {k : K} {p : Addr} {v : Value} {a : AV} {xs : List (K × Addr × Value)} {kvs : List (K × AV)} : Rv h v a → KRH h xs kvs → KRH h ((k, p, v) :: xs) ((k, a) :: kvs)
theorem KRH.of {h : Heap} {xs : List (K × Addr × Value)} {kvs : List (K × AV)} (e : xs.map (·.1) = kvs.map (·.1)) (r : RvL h (xs.map (·.2.2)) (kvs.map (·.2))) : KRH h xs kvs := by
  induction xs generalizing kvs with
  | nil => rw [List.map_eq_nil_iff.mp e.symm]; exact .nil
  | cons x xs ih =>
    cases kvs with
    | nil => cases e
    | cons y kvs =>
      obtain ⟨k, p, v⟩ := x
      obtain ⟨k', a⟩ := y
      have e1 : k = k' := (List.cons.inj e).1
      subst e1
      exact .cons r.hd (ih (List.cons.inj e).2 r.tl)
theorem KRH.to {h : Heap} {xs : List (K × Addr × Value)} {kvs : List (K × AV)} (x : KRH h xs kvs) : xs.map (·.1) = kvs.map (·.1) ∧ RvL h (xs.map (·.2.2)) (kvs.map (·.2)) := by
  induction x with
  | nil => exact ⟨rfl, .nil⟩
  | cons r _ ih => exact ⟨by simp [ih.1], .cons r ih.2⟩
theorem KRH.le {h h' : Heap} (k : Le h h') {xs : List (K × Addr × Value)} {kvs : List (K × AV)} (x : KRH h xs kvs) : KRH h' xs kvs := by
  induction x with
  | nil => exact .nil
  | cons r _ ih => exact .cons (r.le k) ih
theorem KRH.length {h : Heap} {xs : List (K × Addr × Value)} {kvs : List (K × AV)} (x : KRH h xs kvs) : xs.length = kvs.length := by
  induction x with
  | nil => rfl
  | cons _ _ ih => simp [ih]
theorem KRH.at {h : Heap} {xs : List (K × Addr × Value)} {kvs : List (K × AV)} (x : KRH h xs kvs) (k : K) : (match at_ kvs k with | some a => ∃ p v, atKey xs k = some (p, v) ∧ Rv h v a | none => atKey xs k = none) := by
  unfold at_ atKey
  induction x with
  | nil => rfl
  | @cons k' p v a xs kvs r _ ih =>
    rw [List.find?_cons, List.find?_cons]
    by_cases e : k' = k
    · simp only [e, decide_true]; exact ⟨p, v, rfl, r⟩
    · simp only [e, decide_false]; exact ih
theorem KRH.put {h : Heap} {xs : List (K × Addr × Value)} {kvs : List (K × AV)} (x : KRH h xs kvs) (k : K) (p : Addr) {v : Value} {a : AV} (r : Rv h v a) : KRH h (storedH xs k p v) (put_ kvs k a) := by
  have z := x.at k
  unfold storedH put_
  cases q : at_ kvs k with
  | some b =>
    rw [q] at z; obtain ⟨_, u, z, _⟩ := z; rw [z]
    simp only [Option.isSome_some, if_true]
    clear z q
    induction x with
    | nil => exact .nil
    | @cons k' _ _ _ _ _ r' _ ih =>
      rw [List.map_cons, List.map_cons]
      by_cases e : k' = k
      · simp only [putAt, e, if_true]; exact .cons r ih
      · simp only [putAt, e, if_false]; exact .cons r' ih
  | none =>
    rw [q] at z; rw [z]
    simp only [Option.isSome_none, Bool.false_eq_true, if_false]
    clear z q
    induction x with
    | nil => exact .cons r .nil
    | cons r' _ ih => exact .cons r' ih
theorem KRH.del {h : Heap} {xs : List (K × Addr × Value)} {kvs : List (K × AV)} (x : KRH h xs kvs) (k : K) : KRH h (xs.filter fun x => decide (x.1 ≠ k)) (del_ kvs k) := by
  unfold del_
  induction x with
  | nil => exact .nil
  | @cons k' _ _ _ _ _ r' _ ih =>
    rw [List.filter_cons, List.filter_cons]
    by_cases e : k' = k
    · simp only [e, ne_eq, not_true, decide_false, Bool.false_eq_true, if_false]; exact ih
    · simp only [e, ne_eq, not_false_eq_true, decide_true, if_true]; exact .cons r' ih
end
section
variable (prog : Program) (w : World)
set_option genInjectivity false in
set_option genSizeOf false in
/-- a kind of plain keys -/
structure PlK (K : Type) [DecidableEq K] where
  knd : PySem.KeyKind prog w K
  mo : List (K × AV) → MO
  enc : K → AV
  ro : ∀ h a kvs, RO prog w h a (mo kvs) = ∃ xs, h.DictOf knd a xs ∧ xs.map (·.1) = kvs.map (·.1) ∧ RvL h (xs.map (·.2)) (kvs.map (·.2))
  key : ∀ {h : Heap} {u : Value} {k : K}, Rv h u (enc k) → knd.is k u = true
noncomputable def plI : PlK prog w Int where
  knd := PySem.intKind prog w
  mo := .dI
  enc := fun k => .d (.int k)
  ro := fun _ _ _ => rfl
  key := fun r => by obtain ⟨t, rfl⟩ := r.int_; simp [PySem.intKind, Value.isInt]
noncomputable def plS : PlK prog w Str where
  knd := PySem.strKind prog w
  mo := .dS
  enc := fun k => .d (.str k)
  ro := fun _ _ _ => rfl
  key := fun r => by obtain ⟨t, rfl⟩ := r.str_; simp [PySem.strKind, Value.isStrOf]
set_option genInjectivity false in
set_option genSizeOf false in
/-- a kind of keys that are tuples -/
structure HpK (K : Type) [DecidableEq K] where
  sub : PySem.KeyKind prog w K
  mo : List (List K × AV) → MO
  enc : K → PyData
  ro : ∀ h a kvs, RO prog w h a (mo kvs) = ∃ xs, h.DictOfH (tupleKind sub) a xs ∧ xs.map (·.1) = kvs.map (·.1) ∧ RvL h (xs.map (·.2.2)) (kvs.map (·.2))
  key : ∀ {h : Heap} {vs : List Value} {ks : List K} {as : List Addr}, ReadsAll h vs (ks.map enc) as → ItemsAre sub ks vs
  back : ∀ {h : Heap} {vs : List Value} {ks : List K}, ItemsAre sub ks vs → ReadsAll h vs (ks.map enc) []
noncomputable def hpS : HpK prog w Str where
  sub := PySem.strKind prog w
  mo := .dTS
  enc := .str
  ro := fun _ _ _ => rfl
  key := fun {h vs ks as} r => by
    induction ks generalizing vs as with
    | nil => cases r; exact .nil
    | cons k ks ih => cases r with
      | cons a b => cases a with | str _ t => exact .cons (by simp [PySem.strKind, Value.isStrOf]) (ih b)
  back := fun {h vs ks} r => by
    induction r with
    | nil => exact .nil
    | cons a _ ih => obtain ⟨t, rfl⟩ := Value.isStrOf_shape a; exact .cons (as := []) (bs := []) (.str _ _) ih
noncomputable def hpI : HpK prog w Int where
  sub := PySem.intKind prog w
  mo := .dTI
  enc := .int
  ro := fun _ _ _ => rfl
  key := fun {h vs ks as} r => by
    induction ks generalizing vs as with
    | nil => cases r; exact .nil
    | cons k ks ih => cases r with
      | cons a b => cases a with | int _ t => exact .cons (by simp [PySem.intKind, Value.isInt]) (ih b)
  back := fun {h vs ks} r => by
    induction r with
    | nil => exact .nil
    | cons a _ ih => obtain ⟨t, rfl⟩ := Value.isInt_shape a; exact .cons (as := []) (bs := []) (.int _ _) ih
end
section
variable {prog : Program} {w : World} {C : Cx w} {E : Value → Shared → Prop} {D : DS} {env : Env} {pos : Pos}
theorem Den.notSys {s : Shared} (d : Den C D s) {i : Nat} {r : Reg} (hi : D.rs[i]? = some r) {a : Addr} (ha : a ∈ r.foot) : (a == sysModules) = false := by
  have h1 := (d.fresh a (.tail _ (mem_feet.mpr ⟨r, mem_of_get hi, ha⟩))).1
  have h2 : (434 : Nat) < C.h₁.objs.size := by
    obtain ⟨oc, e⟩ : ∃ o, (KK w).lookup 434 = some o := ⟨_, rfl⟩
    exact Heap.lt_size (C.bs.K _ _ e)
  simp only [beq_eq_false_iff_ne]
  intro e
  have : a = 1 := e
  subst this
  omega
theorem le_same {h h' : Heap} {a : Addr} (hs : Heap.SameBut a h h') (hn : NotTp h a) : Le h h' := fun b o e t => (hs.2 b (fun q => by
  subst q
  obtain ⟨o', e', t'⟩ := hn
  rw [e] at e'; cases e'; exact t' t)).trans e
variable {K : Type} [DecidableEq K] (P : PlK prog w K)
theorem Den.plAt {i : Nat} {a : Addr} {kvs : List (K × AV)} {s : Shared} (d : Den C D s) (hi : D.rs[i]? = some (one prog w a (P.mo kvs))) : ∃ xs, s.heap.DictOf P.knd a xs ∧ KR s.heap xs kvs := by
  have x : RO prog w s.heap a (P.mo kvs) := d.regs _ (mem_of_get hi)
  rw [P.ro] at x
  obtain ⟨xs, h1, h2, h3⟩ := x
  exact ⟨xs, h1, .of h2 h3⟩
theorem pl_ro {h : Heap} {a : Addr} {xs : List (K × Value)} {kvs : List (K × AV)} (h1 : h.DictOf P.knd a xs) (h2 : KR h xs kvs) : (one prog w a (P.mo kvs)).P h := by
  show RO prog w h a (P.mo kvs)
  rw [P.ro]
  exact ⟨xs, h1, h2.to.1, h2.to.2⟩
theorem o_inD {i : Nat} {a : Addr} {kvs : List (K × AV)} {k : K} {Q : AV → DS → Prop} (hi : D.rs[i]? = some (one prog w a (P.mo kvs))) (h : Q (.d (.bool (at_ kvs k).isSome)) D) :
    O2 prog w C E Rv (compareOp .In) (P.enc k) (.v (.ref a)) D Q := o2v2 fun s u d r => by
  obtain ⟨xs, h1, h2⟩ := d.plAt P hi
  refine wpAny_in_of (P.key r) (d.notSys hi (.head _)) h1.mapOf (.intro ⟨.toks _ _, d.toks _⟩ (.d ?_) h)
  have z := h2.at k
  cases q : at_ kvs k with
  | some b => rw [q] at z; obtain ⟨u, z, _⟩ := z; rw [z]; exact .bool _
  | none => rw [q] at z; rw [z]; exact .bool _
theorem gm_pl {i : Nat} {a : Addr} {kvs : List (K × AV)} {name : Str} {id : String} (hi : D.rs[i]? = some (one prog w a (P.mo kvs))) (sl : Slot "dict" name id) (ht : typeOf (.builtin id) = pure (.type "method_descriptor")) :
    GM prog C E name (.v (.ref a)) (.builtin id) D := fun s u pl Q d r h => by
  obtain rfl := r.v_
  obtain ⟨xs, h1, h2⟩ := d.plAt P hi
  exact getMethod_builtin (T := "dict") h1.typeIs F.plainAttrs_dict sl ht h1.mapOf.noDict h
theorem ol_get2 {i : Nat} {a : Addr} {kvs : List (K × AV)} {k : K} {b : AV} {Q : AV → DS → Prop} (hi : D.rs[i]? = some (one prog w a (P.mo kvs))) (h : Q ((at_ kvs k).getD b) D) :
    OL prog w C E Rv (fun vs => call (.builtin "dict.get") vs) [.v (.ref a), P.enc k, b] D Q := olv3 fun s u v d r2 r3 => by
          obtain ⟨xs, h1, h2⟩ := d.plAt P hi
          refine call_meetsIn F.slot_dict_get h1.typeIs F.entry_dict_get (F.args_dict_get_3 _ _ _) (meets_dict_get_default P.knd a (P.key r2) (d.notSys hi (.head _)) _) ⟨_, h1.mapOf, .intro ⟨.toks _ _, d.toks _⟩ ?_ h⟩
          have z := h2.at k
          cases q : at_ kvs k with
          | some b => rw [q] at z; obtain ⟨u, z, zr⟩ := z; rw [z]; exact zr
          | none => rw [q] at z; rw [z]; exact r3
theorem ol_get1 {i : Nat} {a : Addr} {kvs : List (K × AV)} {k : K} {Q : AV → DS → Prop} (hi : D.rs[i]? = some (one prog w a (P.mo kvs))) (h : Q ((at_ kvs k).getD (.d .none)) D) :
    OL prog w C E Rv (fun vs => call (.builtin "dict.get") vs) [.v (.ref a), P.enc k] D Q := olv2 fun s u d r2 => by
        obtain ⟨xs, h1, h2⟩ := d.plAt P hi
        refine call_meetsIn F.slot_dict_get h1.typeIs F.entry_dict_get (F.args_dict_get_2 _ _) (meets_dict_get P.knd a (P.key r2) (d.notSys hi (.head _))) ⟨_, h1.mapOf, .intro ⟨.toks _ _, d.toks _⟩ ?_ h⟩
        have z := h2.at k
        cases q : at_ kvs k with
        | some b => rw [q] at z; obtain ⟨u, z, zr⟩ := z; rw [z]; exact zr
        | none => rw [q] at z; rw [z]; exact .d .none
theorem u_setD {i : Nat} {a : Addr} {kvs : List (K × AV)} {k : K} {x : AV} {Q : DS → Prop} (hi : D.rs[i]? = some (one prog w a (P.mo kvs))) (hz : kvs.length ≤ 10000) (h : Q ⟨D.m, D.rs.set i (one prog w a (P.mo (put_ kvs k x)))⟩) :
    O3 prog w C E Ru (fun v ov iv => setItem ov iv v) x (.v (.ref a)) (P.enc k) D (KU Q) := fun s u v y d r1 r2 r3 => by
  obtain rfl := r2.v_
  obtain ⟨xs, h1, h2⟩ := d.plAt P hi
  have nt := d.notTp (.tail _ (mem_feet.mpr ⟨_, mem_of_get hi, .head _⟩) : a ∈ C.L :: feet D.rs)
  refine wpAny_setItem_pairs (P.key r3) h1 (fun h' hm hs => ?_) (by rw [h2.length, sizeLine_eq]; omega)
  exact .intro (b := ()) (d.upd hi (r' := one prog w a (P.mo (put_ kvs k x))) rfl (fun b o q e => (hs.2 b (by simpa [one] using q)).trans e) (Nat.le_of_eq hs.1.symm) (pl_ro P hm ((h2.le (le_same hs nt)).put k (r1.le (le_same hs nt))))) trivial h
theorem o_del {i : Nat} {a : Addr} {kvs : List (K × AV)} {k : K} {Q : DS → Prop} (hi : D.rs[i]? = some (one prog w a (P.mo kvs))) (hz : kvs.length ≤ 10000) (ht : (at_ kvs k).isSome = true) (h : Q ⟨D.m, D.rs.set i (one prog w a (P.mo (del_ kvs k)))⟩) :
    O2 prog w C E Ru (fun ov iv => delItem ov iv) (.v (.ref a)) (P.enc k) D (KU Q) := fun s u v d r1 r2 => by
  obtain rfl := r1.v_
  obtain ⟨xs, h1, h2⟩ := d.plAt P hi
  have nt := d.notTp (.tail _ (mem_feet.mpr ⟨_, mem_of_get hi, .head _⟩) : a ∈ C.L :: feet D.rs)
  refine wpAny_delItem_slot h1.typeIs (by decide) F.slot_dict_delitem (call_meetsIn F.slot_dict_delitem h1.typeIs F.entry_dict_delitem (F.args_dict_delitem_2 _ _) (meets_dict_delitem_pairs P.knd a (P.key r2))
    ⟨xs, h1, by rw [h2.length, sizeLine_eq]; omega, ?_, fun h' hm hs => ?_⟩)
  · have z := h2.at k
    cases q : at_ kvs k with
    | some b => rw [q] at z; obtain ⟨u, z, zr⟩ := z; rw [z]; rfl
    | none => rw [q] at ht; cases ht
  · exact .intro (b := ()) (d.upd hi (r' := one prog w a (P.mo (del_ kvs k))) rfl (fun b o q e => (hs.2 b (by simpa [one] using q)).trans e) (Nat.le_of_eq hs.1.symm) (pl_ro P hm ((h2.le (le_same hs nt)).del k))) trivial h
theorem s_delItem {o i : Expr} {dpos : Pos} {Q : FL → DS → Prop} (h : EV prog w C E (eval o env) D (K2 prog w C E (eval i env) Ru (fun ov iv => delItem ov iv) (KU (Q .next)))) :
    SV prog w C E (exec (.Delete [.Subscript o i dpos] pos) env) D Q := fun s d =>
  wpAny_Delete (wpAny_deleteEach_cons (PyProof.Rows.delete_Subscript (wpAny_mono (seq2 (f := fun ov iv => delItem ov iv) d h) (fun v s₁ p => wpAny_mono p (fun u s₂ p => wpAny_mono p (fun _ s₃ p => wpAny_deleteEach_nil (by
    obtain ⟨n, _, D', d', _, q⟩ := p
    exact ⟨n, _, D', d', .next, q⟩)) fun _ _ x => x) fun _ _ x => x) fun _ _ x => x)))
/-- an empty dict -/
theorem e_dict0 {Q : AV → DS → Prop} (P : PlK prog w K) (h : ∀ a, Q (.v (.ref a)) ⟨D.m, D.rs ++ [one prog w a (P.mo [])]⟩) : EV prog w C E (eval (.Dict [] [] pos) env) D Q := fun s d =>
  wpAny_Dict_empty (.intro (d.new (one prog w s.heap.objs.size (P.mo [])) (tk := s.toks) (push_keeps _ _) (push_size _ _) (pl_ro P (Heap.DictOf.new _) .nil) (by simp [one]) (by simp [one])) (.v _) (h _))
variable (T : HpK prog w K)
theorem Den.hpAt {i : Nat} {a : Addr} {kvs : List (List K × AV)} {s : Shared} (d : Den C D s) (hi : D.rs[i]? = some (one prog w a (T.mo kvs))) : ∃ xs, s.heap.DictOfH (tupleKind T.sub) a xs ∧ KRH s.heap xs kvs := by
  have x : RO prog w s.heap a (T.mo kvs) := d.regs _ (mem_of_get hi)
  rw [T.ro] at x
  obtain ⟨xs, h1, h2, h3⟩ := x
  exact ⟨xs, h1, .of h2 h3⟩
theorem hp_ro {h : Heap} {a : Addr} {xs : List (List K × Addr × Value)} {kvs : List (List K × AV)} (h1 : h.DictOfH (tupleKind T.sub) a xs) (h2 : KRH h xs kvs) : (one prog w a (T.mo kvs)).P h := by
  show RO prog w h a (T.mo kvs)
  rw [T.ro]
  exact ⟨xs, h1, h2.to.1, h2.to.2⟩
theorem hp_key {h : Heap} {u : Value} {ks : List K} (r : Rv h u (.d (.tuple (ks.map T.enc)))) : ∃ a, u = .ref a ∧ (tupleKind T.sub).is h ks a := by
  obtain ⟨a, o, vs, n, rfl, ho, hc, hd, hr⟩ := r.tupD
  exact ⟨_, rfl, _, _, _, ho, hc, hd, T.key hr⟩
theorem Cx.room (C : Cx w) {sub : PySem.KeyKind prog w K} : (tupleKind sub).room C.A.in1 ∧ (tupleKind sub).room C.A := by
  have := C.units
  exact ⟨by show C.A.units + 1 < 9900; omega, by show C.A.units < 9900; omega⟩
theorem o_inH {i : Nat} {a : Addr} {kvs : List (List K × AV)} {k : List K} {Q : AV → DS → Prop} (hi : D.rs[i]? = some (one prog w a (T.mo kvs))) (h : Q (.d (.bool (at_ kvs k).isSome)) D) :
    O2 prog w C E Rv (compareOp .In) (.d (.tuple (k.map T.enc))) (.v (.ref a)) D Q := o2v2 fun s u d r => by
  obtain ⟨xs, h1, h2⟩ := d.hpAt T hi
  obtain ⟨b, rfl, hk⟩ := hp_key T r
  refine wpAny_in_heap C.room.1 hk (d.notSys hi (.head _)) h1 (.intro ⟨.toks _ _, d.toks _⟩ (.d ?_) h)
  have z := h2.at k
  cases q : at_ kvs k with
  | some b => rw [q] at z; obtain ⟨p, u, z, _⟩ := z; rw [z]; exact .bool _
  | none => rw [q] at z; rw [z]; exact .bool _
theorem gm_hp {i : Nat} {a : Addr} {kvs : List (List K × AV)} {name : Str} {id : String} (hi : D.rs[i]? = some (one prog w a (T.mo kvs))) (sl : Slot "dict" name id) (ht : typeOf (.builtin id) = pure (.type "method_descriptor")) :
    GM prog C E name (.v (.ref a)) (.builtin id) D := fun s u pl Q d r h => by
  obtain rfl := r.v_
  obtain ⟨xs, h1, h2⟩ := d.hpAt T hi
  exact getMethod_builtin (T := "dict") h1.typeIs F.plainAttrs_dict sl ht (PyProof.Rows.dictOfH_noDict h1) h
theorem ol_get2H {i : Nat} {a : Addr} {kvs : List (List K × AV)} {k : List K} {b : AV} {Q : AV → DS → Prop} (hi : D.rs[i]? = some (one prog w a (T.mo kvs))) (h : Q ((at_ kvs k).getD b) D) :
    OL prog w C E Rv (fun vs => call (.builtin "dict.get") vs) [.v (.ref a), .d (.tuple (k.map T.enc)), b] D Q := olv3 fun s u v d r2 r3 => by
          obtain ⟨xs, h1, h2⟩ := d.hpAt T hi
          obtain ⟨p, rfl, hk⟩ := hp_key T r2
          refine call_meetsIn F.slot_dict_get h1.typeIs F.entry_dict_get (F.args_dict_get_3 _ _ _) (meetsH_dict_get_default (tupleKind T.sub) a p (d.notSys hi (.head _)) _) ⟨C.room.1, _, _, hk, h1, .intro ⟨.toks _ _, d.toks _⟩ ?_ h⟩
          have z := h2.at k
          cases q : at_ kvs k with
          | some b => rw [q] at z; obtain ⟨p, u, z, zr⟩ := z; rw [z]; exact zr
          | none => rw [q] at z; rw [z]; exact r3
theorem ol_get1H {i : Nat} {a : Addr} {kvs : List (List K × AV)} {k : List K} {Q : AV → DS → Prop} (hi : D.rs[i]? = some (one prog w a (T.mo kvs))) (h : Q ((at_ kvs k).getD (.d .none)) D) :
    OL prog w C E Rv (fun vs => call (.builtin "dict.get") vs) [.v (.ref a), .d (.tuple (k.map T.enc))] D Q := olv2 fun s u d r2 => by
        obtain ⟨xs, h1, h2⟩ := d.hpAt T hi
        obtain ⟨p, rfl, hk⟩ := hp_key T r2
        refine call_meetsIn F.slot_dict_get h1.typeIs F.entry_dict_get (F.args_dict_get_2 _ _) (meetsH_dict_get (tupleKind T.sub) a p (d.notSys hi (.head _))) ⟨C.room.1, _, _, hk, h1, .intro ⟨.toks _ _, d.toks _⟩ ?_ h⟩
        have z := h2.at k
        cases q : at_ kvs k with
        | some b => rw [q] at z; obtain ⟨p, u, z, zr⟩ := z; rw [z]; exact zr
        | none => rw [q] at z; rw [z]; exact .d .none
theorem u_setH {i : Nat} {a : Addr} {kvs : List (List K × AV)} {k : List K} {x : AV} {Q : DS → Prop} (hi : D.rs[i]? = some (one prog w a (T.mo kvs))) (hz : kvs.length ≤ 10000) (h : Q ⟨D.m, D.rs.set i (one prog w a (T.mo (put_ kvs k x)))⟩) :
    O3 prog w C E Ru (fun v ov iv => setItem ov iv v) x (.v (.ref a)) (.d (.tuple (k.map T.enc))) D (KU Q) := fun s u v y d r1 r2 r3 => by
  obtain rfl := r2.v_
  obtain ⟨xs, h1, h2⟩ := d.hpAt T hi
  obtain ⟨p, rfl, hk⟩ := hp_key T r3
  have nt := d.notTp (.tail _ (mem_feet.mpr ⟨_, mem_of_get hi, .head _⟩) : a ∈ C.L :: feet D.rs)
  refine wpAny_setItem_heap C.room.1 hk h1 (fun h' hm hs => ?_) (by rw [h2.length, sizeLine_eq]; omega)
  exact .intro (b := ()) (d.upd hi (r' := one prog w a (T.mo (put_ kvs k x))) rfl (fun b o q e => (hs.2 b (by simpa [one] using q)).trans e) (Nat.le_of_eq hs.1.symm) (hp_ro T hm ((h2.le (le_same hs nt)).put k p (r1.le (le_same hs nt))))) trivial h
theorem e_dict0H {Q : AV → DS → Prop} (h : ∀ a, Q (.v (.ref a)) ⟨D.m, D.rs ++ [one prog w a (T.mo [])]⟩) : EV prog w C E (eval (.Dict [] [] pos) env) D Q := fun s d =>
  wpAny_Dict_empty (.intro (d.new (one prog w s.heap.objs.size (T.mo [])) (tk := s.toks) (push_keeps _ _) (push_size _ _) (hp_ro T (Heap.DictOfH.new _) .nil) (by simp [one]) (by simp [one])) (.v _) (h _))
end
end Mine
end
section
open PySem PySem.W
set_option maxRecDepth 100000
namespace Mine
section
variable {prog : Program} {w : World} {C : Cx w} {E : Value → Shared → Prop} {D : DS} {env : Env} {pos : Pos}
theorem ol_f {f : Value} {n : Nat} {l : List AV} {rs : List Reg} {Q₀ : AV → List Reg → List Reg → Prop} {Q : AV → DS → Prop} (hf : Fn prog w f n l rs Q₀) (is : List Nat) (h : ∀ av rs' nw, Q₀ av rs' nw → Aft D is Q av rs' nw)
    (hi : pickAt D.rs is = rs.map some := by rfl) (hd : is.Nodup := by decide) (hn : n ≤ C.lv := by exact le_lv (by assumption) rfl) : OL prog w C E Rv (fun vs => call f vs) l D Q := ol_fn hf is (.of hi) h hd hn
theorem se_const {c : Const} {k : Nat} {p : Pos} {rest : List Expr} : starEach (.Constant c k p :: rest) env = (false, eval (.Constant c k p) env) :: starEach rest env := rfl
theorem se_tuple {es : List Expr} {k : Nat} {p : Pos} {rest : List Expr} : starEach (.Tuple es k p :: rest) env = (false, eval (.Tuple es k p) env) :: starEach rest env := rfl
theorem l_str {x : Str} {k : Nat} {p : Pos} {rest : List Expr} {Q : List AV → DS → Prop} (h : LV prog w C E (spliced (backTo pos (starEach rest env))) D (LQ Q (.d (.str x)))) :
    LV prog w C E (spliced (backTo pos (starEach (.Constant (.str x) k p :: rest) env))) D Q := l_cons (e_str h) se_const
theorem l_int {x : Int} {k : Nat} {p : Pos} {rest : List Expr} {Q : List AV → DS → Prop} (h : LV prog w C E (spliced (backTo pos (starEach rest env))) D (LQ Q (.d (.int x)))) :
    LV prog w C E (spliced (backTo pos (starEach (.Constant (.int x) k p :: rest) env))) D Q := l_cons (e_int h) se_const
theorem l_tuple {es : List Expr} {k : Nat} {p : Pos} {rest : List Expr} {Q : List AV → DS → Prop}
    (h : LV prog w C E (spliced (backTo p (starEach es env))) D (TupK (LK prog w C E (spliced (backTo pos (starEach rest env))) Q))) :
    LV prog w C E (spliced (backTo pos (starEach (.Tuple es k p :: rest) env))) D Q := l_cons (e_tuple h) se_tuple
/-- a module's constant that is plain data -/
theorem Rv.tuple_of {h : Heap} {a : Addr} {o : Obj} {vs : Array Value} {n : Nat} {xs : List PyData} (ho : h.get? a = some o) (hc : o.cls = .type "tuple") (hd : o.data = .seq vs n) (hr : ReadsAll h vs.toList xs []) : Rv h (.ref a) (.d (.tuple xs)) := .d (.tuple ho hc hd hr)
end
end Mine
end
section
open PySem PySem.W
set_option maxRecDepth 100000
namespace Mine
noncomputable def addL {α : Type} [DecidableEq α] (T : List α) (x : α) : List α := if x ∈ T then T else T ++ [x]
/-- where x stands -/
noncomputable def ix {α : Type} [DecidableEq α] (T : List α) (x : α) : Nat := T.idxOf x
noncomputable def numT (T : List Str) : List (Str × AV) := T.zipIdx.map fun p => (p.1, .d (.int (p.2 : Nat)))
noncomputable def numG (G : List (Int × Int)) : List (List Int × AV) := G.zipIdx.map fun p => ([p.1.1, p.1.2], .d (.int (p.2 : Nat)))
noncomputable abbrev strsA (T : List Str) : List AV := T.map fun x => .d (.str x)
noncomputable abbrev pairsA (G : List (Int × Int)) : List AV := G.map fun p => .d (.tuple [.int p.1, .int p.2])
set_option genInjectivity false in
set_option genSizeOf false in
structure BA where
  (o dd t n f g : Addr)
noncomputable abbrev bookFs (B : BA) : Fs := [("texts", .v (.ref B.t)), ("atom_numbers", .v (.ref B.n)), ("functors", .v (.ref B.f)), ("functor_numbers", .v (.ref B.g))]
noncomputable abbrev bookRs (prog : Program) (w : World) (B : BA) (T : List Str) (G : List (Int × Int)) : List Reg :=
  [instR B.o B.dd 154 (bookFs B), one prog w B.t (.list (strsA T)), one prog w B.n (.dS (numT T)), one prog w B.f (.list (pairsA G)), one prog w B.g (.dTI (numG G))]
theorem find_zipIdx {α β : Type} [DecidableEq α] (f : α → β) [DecidableEq β] (hf : ∀ a b, f a = f b → a = b) (V : Type) (g : Nat → V) (x : α) : ∀ (T : List α) (k : Nat),
    ((T.zipIdx k).map fun p => (f p.1, g p.2)).find? (fun kv => decide (kv.1 = f x)) = if x ∈ T then some (f x, g (k + ix T x)) else none
  | [], k => by simp [ix]
  | y :: T, k => by
    rw [List.zipIdx_cons, List.map_cons, List.find?_cons]
    by_cases e : y = x
    · subst e; simp [ix]
    · have e' : ¬ f y = f x := fun q => e (hf _ _ q)
      simp only [e', decide_false]
      rw [find_zipIdx f hf V g x T (k + 1)]
      have e2 : ¬ x = y := fun q => e q.symm
      by_cases m : x ∈ T
      · simp only [m, if_true, List.mem_cons, or_true, ix, List.idxOf_cons]
        have : (y == x) = false := by simpa using e
        rw [this]; simp only [cond_false]; congr 2; congr 1; omega
      · simp [m, e2]
theorem at_numT (T : List Str) (x : Str) : at_ (numT T) x = if x ∈ T then some (.d (.int (ix T x : Nat))) else none := by
  unfold at_ numT
  rw [find_zipIdx (fun x : Str => x) (fun _ _ e => e) AV (fun i => .d (.int (i : Nat))) x T 0]
  by_cases m : x ∈ T <;> simp [m]
theorem at_numG (G : List (Int × Int)) (p : Int × Int) : at_ (numG G) [p.1, p.2] = if p ∈ G then some (.d (.int (ix G p : Nat))) else none := by
  unfold at_ numG
  rw [find_zipIdx (fun p : Int × Int => [p.1, p.2]) (fun a b e => by obtain ⟨a1, a2⟩ := a; obtain ⟨b1, b2⟩ := b; simp at e; simp [e]) AV (fun i => .d (.int (i : Nat))) p G 0]
  by_cases m : p ∈ G <;> simp [m]
theorem put_numT {T : List Str} {x : Str} (h : x ∉ T) : put_ (numT T) x (.d (.int (T.length : Nat))) = numT (T ++ [x]) := by
  unfold put_
  rw [at_numT, if_neg h]
  simp [numT, List.zipIdx_append]
theorem put_numG {G : List (Int × Int)} {p : Int × Int} (h : p ∉ G) : put_ (numG G) [p.1, p.2] (.d (.int (G.length : Nat))) = numG (G ++ [p]) := by
  unfold put_
  rw [at_numG, if_neg h]
  simp [numG, List.zipIdx_append]
theorem ix_new {α : Type} [DecidableEq α] {T : List α} {x : α} (h : x ∉ T) : ix (T ++ [x]) x = T.length := by
  unfold ix
  rw [List.idxOf_append, if_neg h]; simp
section
variable {prog : Program} {w : World}
set_option maxHeartbeats 4000000
theorem fn_atom (B : BA) (T : List Str) (G : List (Int × Int)) (x : Str) (hT : T.length ≤ 5000) :
    Fn prog w (.ref 88) 1 [.v (.ref B.o), .d (.str x)] (bookRs prog w B T G) (fun av rs' nw => av = .d (.int (ix (addL T x) x : Nat)) ∧ rs' = bookRs prog w B (addL T x) G ∧ nw = []) := by
  refine fn_body ["self", "text"] ["found", "number"] (by rfl) (by rfl) (by kernel_rfl) ?_ (by rfl) (by decide) (by decide) (by decide) ?_ (by rfl) (by rfl) (by rfl)
  · intro vals h
    obtain ⟨a, b, rfl⟩ := len2 h
    rfl
  intro C hC ho
  refine ss_cons <| s_assign (i := 2) <| e_meth <| e_attr <| e_loc (i := 0) (by rfl) <| o_attr (i := 0) (by rfl) (by rfl) ⟨_, gm_pl (plS prog w) (i := 2) (by rfl) PySem.F.slot_dict_get PySem.F.type_dict_get, kp_builtin, ?_⟩
  refine l_cons <| e_loc (i := 1) (by rfl) <| l_cons <| e_un <| e_int <| o_neg <| l_nil <| ol_get2 (plS prog w) (k := x) (i := 2) (by rfl) ⟨⟨_, by rfl⟩, ?_⟩
  rw [at_numT]
  by_cases m : x ∈ T
  · have e : addL T x = T := if_pos m
    rw [if_pos m, e]
    refine ss_cons <| s_if <| b_cmp <| e_loc (i := 2) (by rfl) <| e_int <| o_ge ⟨_, rfl, fun hg => ?_, fun hg => ?_⟩
    · refine ss_cons <| s_ret <| e_loc (i := 2) (by rfl) ?_
      exact ⟨bookRs prog w B T G, [], [], .refl _, rfl, rfl, rfl, rfl⟩
    · simp at hg
  · have e : addL T x = T ++ [x] := if_neg m
    rw [if_neg m, e]
    refine ss_cons <| s_if <| b_cmp <| e_loc (i := 2) (by rfl) <| e_int <| o_ge ⟨_, rfl, fun hg => ?_, fun hg => ?_⟩
    · simp at hg
    refine ss_nil <| ss_cons <| s_assign (i := 3) <| e_bcall (l_cons <| e_attr <| e_loc (i := 0) (by rfl) <| o_attr (i := 0) (by rfl) (by rfl) <| l_nil <| ol_len (i := 1) (by rfl) (by simp; omega) ⟨⟨_, by rfl⟩, ?_⟩) kp_builtin
    rw [show (strsA T).length = T.length from by simp]
    refine ss_cons <| s_expr <| e_meth <| e_attr <| e_loc (i := 0) (by rfl) <| o_attr (i := 0) (by rfl) (by rfl) ⟨_, gm_append (i := 1) (by rfl), kp_builtin, l_cons <| e_loc (i := 1) (by rfl) <| l_nil <| ol_append (i := 1) (by rfl) (by simp; omega) ?_⟩
    rw [show (strsA T ++ [AV.d (.str x)]) = strsA (T ++ [x]) from by simp]
    refine ss_cons <| s_setitem <| e_loc (i := 3) (by rfl) <| e_attr <| e_loc (i := 0) (by rfl) <| o_attr (i := 0) (by rfl) (by rfl) <| e_loc (i := 1) (by rfl) <| u_setD (plS prog w) (k := x) (i := 2) (by rfl) (by simp [numT]; omega) ?_
    rw [put_numT m]
    refine ss_cons <| s_ret <| e_loc (i := 3) (by rfl) ?_
    exact ⟨bookRs prog w B (T ++ [x]) G, [], [], .refl _, rfl, by rw [ix_new m]; rfl, rfl, rfl⟩
theorem fn_functor (B : BA) (T : List Str) (G : List (Int × Int)) (p : Int × Int) (hG : G.length ≤ 5000) :
    Fn prog w (.ref 102) 1 [.v (.ref B.o), .d (.int p.1), .d (.int p.2)] (bookRs prog w B T G) (fun av rs' nw => av = .d (.int (ix (addL G p) p : Nat)) ∧ rs' = bookRs prog w B T (addL G p) ∧ nw = []) := by
  refine fn_body ["self", "atom", "arity"] ["key", "found", "number"] (by rfl) (by rfl) (by kernel_rfl) ?_ (by rfl) (by decide) (by decide) (by decide) ?_ (by rfl) (by rfl) (by rfl)
  · intro vals h
    obtain ⟨a, b, c, rfl⟩ := len3 h
    rfl
  intro C hC ho
  refine ss_cons <| s_assign (i := 3) <| e_tuple <| l_cons <| e_loc (i := 1) (by rfl) <| l_cons <| e_loc (i := 2) (by rfl) <| l_nil ⟨[.int p.1, .int p.2], rfl, by simp, ⟨_, by rfl⟩, ?_⟩
  refine ss_cons <| s_assign (i := 4) <| e_meth <| e_attr <| e_loc (i := 0) (by rfl) <| o_attr (i := 0) (by rfl) (by rfl) ⟨_, gm_hp (hpI prog w) (i := 4) (by rfl) PySem.F.slot_dict_get PySem.F.type_dict_get, kp_builtin, ?_⟩
  refine l_cons <| e_loc (i := 3) (by rfl) <| l_cons <| e_un <| e_int <| o_neg <| l_nil <| ol_get2H (hpI prog w) (k := [p.1, p.2]) (i := 4) (by rfl) ⟨⟨_, by rfl⟩, ?_⟩
  rw [at_numG]
  by_cases m : p ∈ G
  · have e : addL G p = G := if_pos m
    rw [if_pos m, e]
    refine ss_cons <| s_if <| b_cmp <| e_loc (i := 4) (by rfl) <| e_int <| o_ge ⟨_, rfl, fun hg => ?_, fun hg => ?_⟩
    · refine ss_cons <| s_ret <| e_loc (i := 4) (by rfl) ?_
      exact ⟨bookRs prog w B T G, [], [], .refl _, rfl, rfl, rfl, rfl⟩
    · simp at hg
  · have e : addL G p = G ++ [p] := if_neg m
    rw [if_neg m, e]
    refine ss_cons <| s_if <| b_cmp <| e_loc (i := 4) (by rfl) <| e_int <| o_ge ⟨_, rfl, fun hg => ?_, fun hg => ?_⟩
    · simp at hg
    refine ss_nil <| ss_cons <| s_assign (i := 5) <| e_bcall (l_cons <| e_attr <| e_loc (i := 0) (by rfl) <| o_attr (i := 0) (by rfl) (by rfl) <| l_nil <| ol_len (i := 3) (by rfl) (by simp; omega) ⟨⟨_, by rfl⟩, ?_⟩) kp_builtin
    rw [show (pairsA G).length = G.length from by simp]
    refine ss_cons <| s_expr <| e_meth <| e_attr <| e_loc (i := 0) (by rfl) <| o_attr (i := 0) (by rfl) (by rfl) ⟨_, gm_append (i := 3) (by rfl), kp_builtin, l_cons <| e_loc (i := 3) (by rfl) <| l_nil <| ol_append (i := 3) (by rfl) (by simp; omega) ?_⟩
    rw [show (pairsA G ++ [AV.d (.tuple [.int p.1, .int p.2])]) = pairsA (G ++ [p]) from by simp]
    refine ss_cons <| s_setitem <| e_loc (i := 5) (by rfl) <| e_attr <| e_loc (i := 0) (by rfl) <| o_attr (i := 0) (by rfl) (by rfl) <| e_loc (i := 3) (by rfl) <| u_setH (hpI prog w) (k := [p.1, p.2]) (i := 4) (by rfl) (by simp [numG]; omega) ?_
    rw [put_numG m]
    refine ss_cons <| s_ret <| e_loc (i := 5) (by rfl) ?_
    exact ⟨bookRs prog w B T (G ++ [p]), [], [], .refl _, rfl, by rw [ix_new m]; rfl, rfl, rfl⟩
end
end Mine
end
section
open PySem PySem.W
set_option maxRecDepth 100000
namespace Mine
section
variable {prog : Program} {w : World}
set_option maxHeartbeats 400000
theorem fn_func (B : BA) (T : List Str) (G : List (Int × Int)) (x : Str) (n : Int) (hT : T.length ≤ 5000) (hG : G.length ≤ 5000) :
    Fn prog w (.ref 109) 2 [.v (.ref B.o), .d (.str x), .d (.int n)] (bookRs prog w B T G)
      (fun av rs' nw => av = .d (.int (ix (addL G ((ix (addL T x) x : Nat), n)) ((ix (addL T x) x : Nat), n) : Nat)) ∧ rs' = bookRs prog w B (addL T x) (addL G ((ix (addL T x) x : Nat), n)) ∧ nw = []) := by
  refine fn_body ["self", "text", "arity"] [] (by rfl) (by rfl) (by kernel_rfl) ?_ (by rfl) (by decide) (by decide) (by decide) ?_ (by rfl) (by rfl) (by rfl)
  · intro vals h
    obtain ⟨a, b, c, rfl⟩ := len3 h
    rfl
  intro C hC ho
  refine ss_cons <| s_ret <| e_meth <| e_loc (i := 0) (by rfl) ⟨_, gm_inst 102 (i := 0) (by rfl), kp_K (by kernel_rfl), ?_⟩
  refine l_cons <| e_meth <| e_loc (i := 0) (by rfl) ⟨_, gm_inst 88 (i := 0) (by rfl), kp_K (by kernel_rfl), l_cons <| e_loc (i := 1) (by rfl) <| l_nil <| ol_f (fn_atom B T G x hT) [0, 1, 2, 3, 4] ?_⟩
  refine w_x3 ?_
  refine l_cons <| e_loc (i := 2) (by rfl) <| l_nil <| ol_f (fn_functor B (addL T x) G ((ix (addL T x) x : Nat), n) hG) [0, 1, 2, 3, 4] ?_
  refine w_x3 ?_
  exact ⟨bookRs prog w B (addL T x) (addL G ((ix (addL T x) x : Nat), n)), [], [], .refl _, rfl, rfl, rfl, rfl⟩
theorem fn_text (B : BA) (T : List Str) (G : List (Int × Int)) (k : Nat) (x : Str) (hT : T.length ≤ 5000) (hx : T[k]? = some x) :
    Fn prog w (.ref 95) 1 [.v (.ref B.o), .d (.int k)] (bookRs prog w B T G) (fun av rs' nw => av = .d (.str x) ∧ rs' = bookRs prog w B T G ∧ nw = []) := by
  refine fn_body ["self", "number"] [] (by rfl) (by rfl) (by kernel_rfl) ?_ (by rfl) (by decide) (by decide) (by decide) ?_ (by rfl) (by rfl) (by rfl)
  · intro vals h
    obtain ⟨a, b, rfl⟩ := len2 h
    rfl
  intro C hC ho
  have hk : k < T.length := (List.getElem?_eq_some_iff.mp hx).1
  refine ss_cons <| s_ret <| e_sub <| e_attr <| e_loc (i := 0) (by rfl) <| o_attr (i := 0) (by rfl) (by rfl) <| e_loc (i := 1) (by rfl) <| i_list (i := 1) (by rfl) (by omega) (by omega) (x := .d (.str x)) (by simp [hx]) ?_
  exact ⟨bookRs prog w B T G, [], [], .refl _, rfl, rfl, rfl, rfl⟩
noncomputable abbrev atoms0 : List Str := ["[]", ".", "{}", "-", "+", "*", "/", ",", "|", ";", "->", "\\+", ":-", "?-", "-->", "!", "true", "fail", "false", "call", "=", "^", "error", "", "end_of_file", "system", "$VAR", "catch", "throw"]
noncomputable abbrev functors0 : List (Str × Int) := [(".", 2), (",", 2), (";", 2), ("->", 2), ("\\+", 1), (":-", 2), (":-", 1), ("?-", 1), ("-->", 2), ("{}", 1), ("=", 2), ("^", 2), ("-", 1), ("-", 2), ("+", 2), ("/", 2), ("error", 2), ("$VAR", 1), ("catch", 3), ("throw", 1), ("!", 0), ("true", 0), ("fail", 0), ("false", 0), ("call", 1), ("call", 2), ("call", 3), ("call", 4), ("call", 5), ("call", 6), ("call", 7), ("call", 8)]
theorem fn_fixedAtoms : Fn prog w (.ref 60) 1 [] [] (fun av rs' nw => av = .d (.tuple (atoms0.map .str)) ∧ rs' = [] ∧ nw = []) := by
  refine fn_body [] [] (by rfl) (by rfl) (by kernel_rfl) ?_ (by rfl) (by decide) (by decide) (by decide) ?_ (by rfl) (by rfl) (by rfl)
  · intro vals h
    obtain rfl := len0 h
    rfl
  intro C hC ho
  refine ss_cons ?_
  refine s_ret ?_
  refine e_tuple ?_
  iterate 29 (refine l_str ?_)
  refine l_nil ⟨atoms0.map .str, rfl, by decide, ?_⟩
  exact ⟨[], [], [], .refl _, rfl, rfl, rfl, rfl⟩
theorem fn_fixedFunctors : Fn prog w (.ref 67) 1 [] [] (fun av rs' nw => av = .d (.tuple (functors0.map fun p => .tuple [.str p.1, .int p.2])) ∧ rs' = [] ∧ nw = []) := by
  refine fn_body [] [] (by rfl) (by rfl) (by kernel_rfl) ?_ (by rfl) (by decide) (by decide) (by decide) ?_ (by rfl) (by rfl) (by rfl)
  · intro vals h
    obtain rfl := len0 h
    rfl
  intro C hC ho
  refine ss_cons ?_
  refine s_ret ?_
  refine e_tuple ?_
  iterate 32 (refine l_tuple ?_; refine l_str ?_; refine l_int ?_; refine l_nil ⟨[.str _, .int _], rfl, by simp, ?_⟩)
  refine l_nil ⟨functors0.map fun p => .tuple [.str p.1, .int p.2], rfl, by decide, ?_⟩
  exact ⟨[], [], [], .refl _, rfl, rfl, rfl, rfl⟩
end
end Mine
end
section
open PySem PySem.W
set_option maxRecDepth 100000
namespace Mine
noncomputable def G0 : List (Int × Int) := functors0.map fun p => (((ix atoms0 p.1 : Nat) : Int), p.2)
theorem take_atoms : ∀ k < 29, ∀ x, atoms0[k]? = some x → addL (atoms0.take k) x = atoms0.take (k + 1) := by
  have h : ∀ k < 29, addL (atoms0.take k) (atoms0[k]?.getD "") = atoms0.take (k + 1) := by decide +kernel
  intro k hk x hx
  have := h k hk
  rw [hx] at this
  exact this
theorem take_functors : ∀ k < 32, ∀ p, functors0[k]? = some p → addL atoms0 p.1 = atoms0 ∧ addL (G0.take k) (((ix atoms0 p.1 : Nat) : Int), p.2) = G0.take (k + 1) := by
  have h : ∀ k < 32, (addL atoms0 (functors0[k]?.getD (("" : Str), (0 : Int))).1 = atoms0 ∧ addL (G0.take k) (((ix atoms0 (functors0[k]?.getD (("" : Str), (0 : Int))).1 : Nat) : Int), (functors0[k]?.getD (("" : Str), (0 : Int))).2) = G0.take (k + 1)) := by decide +kernel
  intro k hk p hp
  have := h k hk
  rw [hp] at this
  exact this
section
variable {prog : Program} {w : World}
set_option maxHeartbeats 1000000
theorem fn_symInit (x dx : Addr) : Fn prog w (.ref 81) 3 [.v (.ref x)] [instR x dx 154 []] (fun av rs' nw => av = .d .none ∧ ∃ B : BA, B.o = x ∧ B.dd = dx ∧ rs' ++ nw = bookRs prog w B atoms0 G0 ∧ rs'.length = 1) := by
  refine fn_body ["self"] ["text", "row"] (by rfl) (by rfl) (by kernel_rfl) ?_ (by rfl) (by decide) (by decide) (by decide) ?_ (by rfl) (by rfl) (by rfl)
  · intro vals h
    obtain ⟨a, rfl⟩ := len1 h
    rfl
  intro C hC ho
  refine ss_cons <| s_setattr <| e_list <| l_nil ⟨by decide, fun t => e_loc (i := 0) (by rfl) <| u_attr (i := 0) (by rfl) ?_⟩
  refine ss_cons <| s_setattr <| e_dict0 (plS prog w) fun n => e_loc (i := 0) (by rfl) <| u_attr (i := 0) (by rfl) ?_
  refine ss_cons <| s_setattr <| e_list <| l_nil ⟨by decide, fun f => e_loc (i := 0) (by rfl) <| u_attr (i := 0) (by rfl) ?_⟩
  refine ss_cons <| s_setattr <| e_dict0H (hpI prog w) fun g => e_loc (i := 0) (by rfl) <| u_attr (i := 0) (by rfl) ?_
  obtain ⟨B, rfl, rfl, rfl, rfl, rfl, rfl⟩ : ∃ B : BA, B.o = x ∧ B.dd = dx ∧ B.t = t ∧ B.n = n ∧ B.f = f ∧ B.g = g := ⟨⟨x, dx, t, n, f, g⟩, rfl, rfl, rfl, rfl, rfl, rfl⟩
  refine GV.less (D' := ⟨[("self", some (.v (.ref B.o))), ("text", none), ("row", none)], bookRs prog w B (atoms0.take 0) (G0.take 0)⟩) (fun s d => d) ?_
  refine ss_cut (fun D₁ => D₁ = ⟨[("self", some (.v (.ref B.o))), ("text", none), ("row", none)], bookRs prog w B atoms0 (G0.take 0)⟩) ?_ ?_
  · refine s_for <| e_fcall 60 <| l_nil <| ol_f fn_fixedAtoms [] ?_
    refine w_x3 ?_
    refine oi_tuple fun I t => ⟨srcTup prog C I t ((atoms0.map .str).map .d), rfl, fun k D' => D' = ⟨[("self", some (.v (.ref B.o))), ("text", none), ("row", none)], bookRs prog w B (atoms0.take k) (G0.take 0)⟩, fun _ _ _ _ h => (nomatch h), ⟨_, to_of, rfl⟩, ?_, ?_⟩
    · rintro k a _ hx rfl
      have hk : k < 29 := (List.getElem?_eq_some_iff.mp hx).1
      obtain ⟨x, hx', rfl⟩ : ∃ x, atoms0[k]? = some x ∧ a = .d (.str x) := by
        simp only [srcTup, List.getElem?_map, Option.map_eq_some_iff] at hx
        obtain ⟨_, ⟨x, h1, rfl⟩, rfl⟩ := hx
        exact ⟨x, h1, rfl⟩
      refine as_name (i := 1) (by rfl) ?_
      refine ss_cons <| s_expr <| e_meth <| e_loc (i := 0) (by rfl) ⟨_, gm_inst 88 (i := 0) (by rfl), kp_K (by kernel_rfl), l_cons <| e_loc (i := 1) (by rfl) <| l_nil <| ol_f (fn_atom B (atoms0.take k) (G0.take 0) x (by simp; omega)) [0, 1, 2, 3, 4] ?_⟩
      refine w_x3 ?_
      rw [take_atoms k hk x hx']
      exact ss_nil ⟨_, to_of, rfl⟩
    · refine w_eq ?_
      exact ⟨_, fun _ d => d, rfl⟩
  refine w_eq ?_
  refine ss_cut (fun D₁ => D₁ = ⟨[("self", some (.v (.ref B.o))), ("text", none), ("row", none)], bookRs prog w B atoms0 G0⟩) ?_ ?_
  · refine s_for <| e_fcall 67 <| l_nil <| ol_f fn_fixedFunctors [] ?_
    refine w_x3 ?_
    refine oi_tuple fun I t => ⟨srcTup prog C I t ((functors0.map fun p => .tuple [.str p.1, .int p.2]).map .d), rfl, fun k D' => D' = ⟨[("self", some (.v (.ref B.o))), ("text", none), ("row", none)], bookRs prog w B atoms0 (G0.take k)⟩, fun _ _ _ _ h => (nomatch h), ⟨_, to_of, rfl⟩, ?_, ?_⟩
    · rintro k a _ hx rfl
      have hk : k < 32 := (List.getElem?_eq_some_iff.mp hx).1
      obtain ⟨p, hx', rfl⟩ : ∃ p, functors0[k]? = some p ∧ a = .d (.tuple [.str p.1, .int p.2]) := by
        simp only [srcTup, List.getElem?_map, Option.map_eq_some_iff] at hx
        obtain ⟨_, ⟨x, h1, rfl⟩, rfl⟩ := hx
        exact ⟨x, h1, rfl⟩
      refine as_name (i := 2) (by rfl) ?_
      refine ss_cons <| s_expr <| e_meth <| e_loc (i := 0) (by rfl) ⟨_, gm_inst 109 (i := 0) (by rfl), kp_K (by kernel_rfl), ?_⟩
      refine l_cons <| e_sub <| e_loc (i := 2) (by rfl) <| e_int <| i_tuple (k := 0) (by rfl) ?_
      refine l_cons <| e_sub <| e_loc (i := 2) (by rfl) <| e_int <| i_tuple (k := 1) (by rfl) ?_
      refine l_nil <| ol_f (fn_func B atoms0 (G0.take k) p.1 p.2 (by decide) (by simp; omega)) [0, 1, 2, 3, 4] ?_
      refine w_x3 ?_
      obtain ⟨e1, e2⟩ := take_functors k hk p hx'
      rw [e1, e2]
      exact ss_nil ⟨_, to_of, rfl⟩
    · refine w_eq ?_
      exact ⟨_, fun _ d => d, rfl⟩
  refine w_eq ?_
  exact ss_nil ⟨[instR B.o B.dd 154 (bookFs B)], [one prog w B.t (.list (strsA atoms0)), one prog w B.n (.dS (numT atoms0)), one prog w B.f (.list (pairsA G0)), one prog w B.g (.dTI (numG G0))], [], .refl _, rfl, rfl, B, rfl, rfl, rfl, rfl⟩
end
end Mine
end
section
open PySem PySem.W PySem.Builtin PySem.Builtin.ObjectAttr
set_option maxRecDepth 100000
namespace Mine
noncomputable abbrev excObj (da : Option Addr) (v0 v1 : Value) : Obj := { cls := .ref 51, dict := da, data := .fields #[v0, v1, .none, .none, .bool false, .none] }
/-- a dict that holds attributes -/
noncomputable def dictR (da : Addr) (fs : Fs) : Reg where
  foot := [da]
  P := fun h => ∃ es n, h.get? da = some (dictOf es n) ∧ Ents h es fs
  loc := fun k e ⟨es, n, b, c⟩ => ⟨es, n, e da (by simp) _ b, c.le k⟩
  live := fun ⟨es, n, b, c⟩ y hy => by
    rw [List.mem_singleton.mp hy]; exact ⟨_, b, fun t => by obtain ⟨_, xs, n, e⟩ := t; simp at e⟩
noncomputable abbrev excR (prog : Program) (w : World) (e : Addr) (da : Option Addr) (v0 v1 : Value) : Reg := one prog w e (.raw (excObj da v0 v1))
theorem exc_notTp {da : Option Addr} {v0 v1 : Value} : ¬ Tp (excObj da v0 v1) := fun t => by have := t.1; simp at this
section
variable {prog : Program} {w : World} {C : Cx w} {E : Value → Shared → Prop} {D : DS} {env : Env} {pos : Pos}
theorem exc_cls (w : World) : ∃ nm q N bs hdct sn sub ab col dd k0 k1 k2 k3 k5, (KK w).lookup 51 = some (excClassObj nm q 51 N bs [.ref 31, .type "Exception", .type "BaseException", .type "object"] hdct sn sub ab col dd k0 k1 k2 k3 k5 "Exception.__new__") ∧
   nsIn (KK w) N "__init__" = some (some (.ref 48)) ∧ nsOkIn (KK w) N = true ∧ tailIn (KK w) [.type "Exception", .type "BaseException", .type "object"] [.ref 31, .type "Exception", .type "BaseException", .type "object"] = true :=
  ⟨_, _, _, _, _, _, _, _, _, _, _, _, _, _, _, rfl, by kernel_rfl, by kernel_rfl, by kernel_rfl⟩
theorem exc_cd (w : World) : ∃ cd, clsIn (KK w) 51 = some cd ∧ cd.mro = [.ref 51, .ref 31, .type "Exception", .type "BaseException", .type "object"] ∧ cd.hasDict = true := ⟨_, rfl, rfl, rfl⟩
theorem exc_is {M : Model} {h : Heap} {x : Addr} {ox : Obj} {od : Option Obj} (X : (KK w).In h) (I : InstAt h x ox 51 od) (n : String) (hn : [Value.ref 51, .ref 31, .type "Exception", .type "BaseException", .type "object"].contains (.type n) = true) :
    Looks M h (isInstance (.ref x) (.type n)) true := by
  obtain ⟨cd, hc, hm, _⟩ := exc_cd w
  exact I.type.andThen (looks_mroIn X (by unfold mroIn; rw [hc, Option.bind_some, hm]; rw [if_neg (by decide), hn]))
theorem osa_exc {A : Around} {s : Shared} {x : Addr} {ox : Obj} {od : Option Obj} {name : Str} {tk : Tok} {v : Value} {R : Result → Shared → Prop} (X : (KK w).In s.heap) (I : InstAt s.heap x ox 51 od) (ht : takerIn (KK w) 51 name = some none)
    (h : ∀ b, wpAny (model prog w) A.in1 (storeInOwnDict (.ref x) (.ref 51) (.str name tk) name v b)
      (fun fin s' => match fin with | .done f => R (.ok f) s' | .again c' => c'.quiet = true ∧ codeAny (model prog w) A c' R s') (fun e s' => R (.error e) s') s) :
    codeAny (model prog w) A (.call (.builtin "object.__setattr__") ⟨[.ref x, .str name tk, v], []⟩) R s := by
  have SF := PySem.F.store_object
  obtain ⟨cd, hc, hmro, _⟩ := exc_cd w
  have sub := exc_is (M := model prog w) X I "object" (by decide)
  refine codeAny_call_builtin SF.slot.plain SF.entry (@check_slot (model prog w) _ _ s "object.__setattr__" "object" "__setattr__" (.ref x) [.str name tk, v] [] _ SF.kind SF.split sub (SF.args (.ref x) (.str name tk) v) ?_)
  obtain ⟨attr, ha, hr⟩ := Option.bind_eq_some_iff.mp ht
  have hm : Looks (model prog w) s.heap (mroOf (.ref 51)) cd.mro := (looks_clsIn X hc).andThen .now
  have L3 : Looks (model prog w) s.heap (storeTaker? attr) none := by
    cases attr with
    | none => cases hr; exact .now
    | some a =>
      obtain ⟨b, hb, hbb⟩ := Option.map_eq_some_iff.mp hr
      refine (looks_takesIn X hb).andThen ?_
      cases b with
      | false => exact .now
      | true => cases hbb
  rw [osa_eq, refuse_eq]
  refine wpAny_bind (wpAny_bind (I.type.here (wpAny_bind (hm.here ?_))))
  rw [hmro, refuseLoop_ref, refuseLoop_ref, PySem.F.store_Exception.passes]
  refine wpAny_pure (wpAny_bind (I.type.here (wpAny_bind ((looks_findIn X ha).here (wpAny_bind (L3.here ?_))))))
  exact h _
theorem store_new {A : Around} {s : Shared} {K : Frag} {x c : Addr} {ox : Obj} {name : Str} {v : Value} {tk : Tok} {b : Bool} {cd : ClassData} {P : Fin → Shared → Prop} {E' : Value → Shared → Prop} (X : K.In s.heap) (hx : s.heap.get? x = some ox) (hcl : ox.cls = .ref c) (hno : notCls ox = true) (hd : ox.dict = none) (hfr : ({ ox with dict := some s.heap.objs.size } : Obj).isFreed = false)
    (hc : clsIn K c = some cd) (hd' : cd.hasDict = true)
    (h : ∀ h' es n, h'.get? x = some { ox with dict := some s.heap.objs.size } → h'.get? s.heap.objs.size = some (dictOf es n) → es = [⟨PyData.keyHash w.params name, .str name s.toks, v⟩] → (∀ b o, b ≠ x → s.heap.get? b = some o → h'.get? b = some o) → s.heap.objs.size ≤ h'.objs.size →
      P (.done (.ret .none)) { s with heap := h', toks := s.toks + 1 }) :
    wpAny (model prog w) A (storeInOwnDict (.ref x) (.ref c) (.str name tk) name v b) P E' s := by
  obtain ⟨oc, odi, oda, osl⟩ := ox
  dsimp only at hcl hd hfr
  subst hcl hd
  have hxs : x < s.heap.objs.size := Heap.lt_size hx
  have ne : x ≠ s.heap.objs.size := Nat.ne_of_lt hxs
  have p1 : (s.heap.push emptyDict).get? x = some ⟨.ref c, none, oda, osl⟩ := push_keeps _ _ _ _ hx
  have p2 : ((s.heap.push emptyDict).update x (fun o => { o with dict := some s.heap.objs.size })).get? x = some ⟨.ref c, some s.heap.objs.size, oda, osl⟩ := Heap.get?_update_self _ p1 hfr
  have q1 : ((s.heap.push emptyDict).update x (fun o => { o with dict := some s.heap.objs.size })).get? s.heap.objs.size = some (dictOf [] 0) := (Heap.get?_update_other _ _ ne).trans (Heap.get?_push_size _ rfl)
  have e0 := putName_dict name (PyData.keyHash w.params name) (.str name s.toks) v [] 0
  have D' : (((s.heap.push emptyDict).update x (fun o => { o with dict := some s.heap.objs.size })).update s.heap.objs.size (Obj.putName name (PyData.keyHash w.params name) (.str name s.toks) v)).get? s.heap.objs.size = some (dictOf (putL name (PyData.keyHash w.params name) (.str name s.toks) v []) (putN name [] 0)) := by
    rw [← e0]; exact Heap.get?_update_self _ q1 (by rw [e0]; rfl)
  refine wpAny_bind (wpAny_pure (wpAny_bind (wpAny_bind (wpAny_loadPart hx (wpAny_bind ((looks_clsIn X hc).here ?_))))))
  rw [hd']
  unfold notCls at hno
  cases oda <;> first | (exact absurd hno Bool.false_ne_true) | skip
  all_goals
    refine wpAny_bind (wpAny_alloc (wpAny_bind (wpAny_update p1 ?_)))
    refine wpAny_pure (a := some s.heap.objs.size) (wpAny_bind (wpAny_pure (wpAny_bind ?_)))
    unfold nsSet
    refine wpAny_bind (wpAny_bind (wpAny_askSetting (wpAny_pure (wpAny_bind (wpAny_mkText (wpAny_bind (wpAny_loadPart q1 ?_)))))))
    dsimp only
    refine wpAny_updatePart q1 ?_
    refine wpAny_bind (wpAny_lookBehind D' (pastItsLine_dict (by simp [putL, sizeLine_eq])) ?_)
    exact wpAny_pure (h _ _ _ ((Heap.get?_update_other _ _ (Ne.symm ne)).trans p2) D' rfl (fun b o q e => by
      rw [Heap.get?_update_other _ _ (Nat.ne_of_gt (Heap.lt_size e)), Heap.get?_update_other _ _ (Ne.symm q)]
      exact push_keeps _ _ _ _ e) (by rw [Heap.size_after_update, Heap.size_after_update, Heap.size_push]; omega))
noncomputable def setOkE (K : Frag) (name : Str) : Bool := findIn K (.ref 51) "__setattr__" == some (some (.builtin "object.__setattr__")) && takerIn K 51 name == some none
theorem u_attrExc {i : Nat} {e : Addr} {v0 v1 : Value} {name : Str} {a : AV} {Q : DS → Prop} (hi : D.rs[i]? = some (excR prog w e none v0 v1)) (h : ∀ da, Q ⟨D.m, D.rs.set i (excR prog w e (some da) v0 v1) ++ [dictR da [(name, a)]]⟩)
    (hk : setOkE (KK w) name = true := by kernel_rfl) : O2 prog w C E Ru (fun v ov => setAttr ov name v) a (.v (.ref e)) D (KU Q) := o2v2 fun s v d r1 => by
  have hx : s.heap.get? e = some (excObj none v0 v1) := (d.regs _ (mem_of_get hi)).1
  unfold setOkE at hk
  simp only [Bool.and_eq_true, beq_iff_eq] at hk
  obtain ⟨cd, hc, hmro, hdd⟩ := exc_cd w
  have I : InstAt s.heap e (excObj none v0 v1) 51 none := ⟨hx, rfl, rfl, trivial⟩
  refine set_plain d.K I hk.1 (osa_exc (s := { s with toks := s.toks + 1 }) d.K I hk.2 fun b => store_new (s := { s with toks := s.toks + 1 }) (ox := excObj none v0 v1) d.K hx rfl rfl rfl rfl hc hdd fun h' es n g1 g2 hes g3 g4 => ?_)
  subst hes
  have g1 : h'.get? e = some (excObj (some s.heap.objs.size) v0 v1) := g1
  have g2 : h'.get? s.heap.objs.size = some (dictOf _ n) := g2
  have g3 : ∀ b o, b ≠ e → s.heap.get? b = some o → h'.get? b = some o := g3
  have nt := d.notTp (.tail _ (mem_feet.mpr ⟨_, mem_of_get hi, .head _⟩) : e ∈ C.L :: feet D.rs)
  have le : Le s.heap h' := fun b o q t => g3 b o (fun z => by
    subst z
    obtain ⟨o', e', t'⟩ := nt
    rw [q] at e'; cases e'; exact t' t) q
  have st := d.upd (tk := s.toks + 2) hi (r' := excR prog w e (some s.heap.objs.size) v0 v1) rfl (fun b o q e => g3 b o (fun z => q (by subst z; exact .head _)) e) g4 ⟨g1, exc_notTp⟩
  refine .intro (b := ()) (?_ : Nxt s { s with heap := h', toks := s.toks + 2 } ∧ Den C ⟨D.m, D.rs.set i (excR prog w e (some s.heap.objs.size) v0 v1) ++ [dictR s.heap.objs.size [(name, a)]]⟩ _) trivial (h _)
  refine ⟨st.1, ?_⟩
  have d1 := st.2
  refine ⟨d1.nxt, d1.base, d1.keep, d1.size, d1.ns, fun r hr => ?_, ?_, fun a ha => ?_⟩
  · rcases List.mem_append.mp hr with hr | hr
    · exact d1.regs r hr
    · rw [List.mem_singleton.mp hr]
      exact ⟨_, n, g2, .cons rfl (r1.le le) .nil⟩
  · show (C.L :: feet (D.rs.set i _ ++ [dictR s.heap.objs.size [(name, a)]])).Nodup
    rw [feet_append, feet_set hi (r' := excR prog w e (some s.heap.objs.size) v0 v1) rfl, ← List.cons_append, List.nodup_append]
    refine ⟨d.nodup, by simp [feet, dictR], fun a ha b hb q => ?_⟩
    simp [feet, dictR] at hb
    subst q; subst hb
    exact absurd (d.notTp ha).lt (Nat.lt_irrefl _)
  · have ha : a ∈ C.L :: feet (D.rs.set i (excR prog w e (some s.heap.objs.size) v0 v1) ++ [dictR s.heap.objs.size [(name, _)]]) := ha
    rw [feet_append, feet_set hi (r' := excR prog w e (some s.heap.objs.size) v0 v1) rfl, ← List.cons_append] at ha
    rcases List.mem_append.mp ha with ha | ha
    · exact d.fresh a ha
    · simp [feet, dictR] at ha
      subst ha
      exact ⟨Nat.le_trans C.big d.size, .inr d.size⟩
set_option maxHeartbeats 1000000 in
theorem fn_excInit (prog : Program) (w : World) (e : Addr) (v0 v1 : Value) (b : AV) : Fn prog w (.ref 48) 1 [.v (.ref e), b] [excR prog w e none v0 v1] (fun av rs' nw => av = .d .none ∧ ∃ da, rs' = [excR prog w e (some da) v0 v1] ∧ nw = [dictR da [("ball", b)]]) := by
  refine fn_body ["self", "ball"] [] (by rfl) (by rfl) (by kernel_rfl) ?_ (by rfl) (by decide) (by decide) (by decide) ?_ (by rfl) (by rfl) (by rfl)
  · intro vals h
    obtain ⟨a, b, rfl⟩ := len2 h
    rfl
  intro C hC ho
  refine ss_cons <| s_setattr <| e_loc (i := 1) (by rfl) <| e_loc (i := 0) (by rfl) <| u_attrExc (i := 0) (by rfl) fun da => ss_nil ?_
  exact ⟨[excR prog w e (some da) v0 v1], [dictR da [("ball", b)]], [], .refl _, rfl, rfl, da, rfl, rfl⟩
theorem ns_some_of {K : Frag} {h : Heap} {N : Addr} {mg : Str → Option Value} {n : Str} {v : Value} (X : K.In h) (G : h.Ns N mg) (e : nsIn K N n = some (some v)) : mg n = some v := by
  obtain ⟨o, es, ep, ho, hd, _, hf⟩ := G
  unfold nsIn at e
  split at e
  · rename_i c d es' n' sl q
    have := X _ _ q
    rw [ho] at this
    cases this
    cases hd
    split at e
    · rename_i he
      cases e
      rw [← hf]
      unfold nsFind findBy
      rw [← Array.find?_toList, he]
      rfl
    · split at e <;> cases e
  · cases e
/-- the exception class is called -/
theorem ol_exc {b : AV} {Q : AV → DS → Prop} (h : ∀ e da t, Q (.v (.ref e)) ⟨D.m, D.rs ++ [excR prog w e (some da) (.ref t) .none] ++ [dictR da [("ball", b)]]⟩) (hn : 2 ≤ C.lv := by exact le_lv (by assumption) rfl) :
    OL prog w C E Rv (fun vs => call (.ref 51) vs) [b] D Q := fun s us d r => by
  obtain ⟨nm, q, N, bs, hdct, sn, sub, ab, col, dd, k0, k1, k2, k3, k5, hc, hi, hok, htl⟩ := exc_cls w
  have X := d.K
  have Fn := PySem.F.excBase_Exception
  have hC := X _ _ hc
  have hN : s.heap.Ns N (s.heap.nsMap N) := .of_isNs (isNs_of_in X hok)
  have hni : s.heap.nsMap N "__init__" = some (.ref 48) := ns_some_of X hN hi
  have T := tail_of_in X htl
  obtain ⟨v, rfl⟩ : ∃ v, us = [v] := by cases r with | cons _ r => cases r; exact ⟨_, rfl⟩
  have rv : Rv s.heap v b := by cases r with | cons r _ => exact r
  have hfI : ∃ oI, s.heap.get? 48 = some oI ∧ oI.cls = .type "function" := by
    obtain ⟨o, ho, hoc⟩ : ∃ o, (KK w).lookup 48 = some o ∧ o.cls = .type "function" := ⟨_, rfl, rfl⟩
    exact ⟨o, X _ _ ho, hoc⟩
  obtain ⟨oI, hfI, hfc⟩ := hfI
  -- the two objects that are made
  have st := d.new (excR prog w (s.heap.objs.size + 1) none (.ref s.heap.objs.size) .none) (h' := (s.heap.push { cls := .type "tuple", data := .seq [v].toArray }).push (excObj none (.ref s.heap.objs.size) .none)) (tk := s.toks)
    (fun b o e => push_keeps _ _ _ _ (push_keeps _ _ _ _ e)) (by rw [Heap.size_push, Heap.size_push]; omega) ⟨Heap.get?_push_at (by rw [Heap.size_push]) rfl, exc_notTp⟩ (by simp [one]) (by simp [one])
  obtain ⟨hp, g, dd', t, os⟩ := s
  have f1 := tc_lookup
  have f2 := tc_bind (.ref 51)
  have hT : (⟨hp, g, dd', t, os⟩ : Shared).TypeIs (.ref 51) "type" := ⟨_, hC, rfl⟩
  refine wpAny_call (codeAny_of_tree ?_)
  show wpAny _ _ (callAny (.ref 51) _) _ _ _
  repeat (any_goals (first | assumption | with_reducible refine wpAny_loadPart_at hC ?_ | wp_step))
  refine ⟨rfl, ?_⟩
  refine codeAny_call_builtin_at (Code.quiet_builtin _ (by decide +kernel)) entry_typeCall (wpAny_check_type_call_sub hC ?_)
  repeat (first | with_reducible refine wpAny_loadPart_at hC ?_ | with_reducible refine wpAny_madeBy_exc hC ?_ | wp_step)
  refine codeAny_call_builtin_code (Code.quiet_builtin _ Fn.quiet) (wpAny_check_new_subU Fn (by decide) T hC ?_)
  refine codeAny_exc_new_subU Fn (by decide) Fn T hC ?_ (by simp [sizeLine_eq])
  show wpAny _ _ _ _ _ _
  have kp : ∀ b o, hp.get? b = some o → ((hp.push { cls := .type "tuple", data := .seq [v].toArray }).push (excObj none (.ref hp.objs.size) .none)).get? b = some o := fun b o e => push_keeps _ _ _ _ (push_keeps _ _ _ _ e)
  have hC₁ := kp _ _ hC
  have hfI₁ := kp _ _ hfI
  have hn₁ := hN.keeps kp
  have T₁ := T.keeps kp
  have hget : ((hp.push { cls := .type "tuple", data := .seq [v].toArray }).push (excObj none (.ref hp.objs.size) .none)).get? (hp.objs.size + 1) = some (excObj none (.ref hp.objs.size) .none) := Heap.get?_push_at (by rw [Heap.size_push]) rfl
  have hcC : (Value.ref 51 :: [Value.ref 31, .type "Exception", .type "BaseException", .type "object"]).contains (.ref 51) = true := by decide
  unfold isInstance
  repeat (first | with_reducible refine wpAny_loadPart_at hget ?_ | wp_step)
  show wpAny _ _ (isSubtype (.ref 51) (.ref 51)) _ _ _
  refine wpAny_isSubtype_exc hC₁ ?_
  rw [hcC]
  repeat wp_step
  show wpAny _ _ (typeLookup (.ref 51) _) _ _ _
  refine wpAny_typeLookup_tail hC₁ hn₁ T₁ Fn.mroIs Fn.init.lookup ?_
  rw [hni]
  refine wpAny_holding (wpAny_bind ?_)
  unfold bindSpecial
  refine wpAny_bind (wpAny_typeOf (T := "function") ⟨_, hfI₁, hfc⟩ ?_)
  rw [if_pos (by decide)]
  refine wpAny_pure (wpAny_bind (wpAny_call (codeAny_mono (fn_excInit prog w (hp.objs.size + 1) (.ref hp.objs.size) .none b C.h₁ _ _ [.ref (hp.objs.size + 1), v] ?_) fun r s' q => ?_)))
  · have p := Den.pre (n := 1) st.2 (.cons get_last .nil) (by simp) (by omega) (A := C.A) (args := [.v (.ref (hp.objs.size + 1)), b]) (vals := [.ref (hp.objs.size + 1), v]) C.handled (Nat.le_refl _) (Nat.le_refl _) (.cons (.v _) (.cons (rv.le st.1.1) .nil))
    exact { p with handled := C.handled, depth := by show C.A.depth + 1 + 1 ≤ 900; have := C.depth; omega, units := by show C.A.units + 1 + 20 * 1 ≤ 9000; have := C.units; omega }
  · cases r with
    | error e => exact q.elim
    | ok fl => cases fl with
      | ret u =>
        obtain ⟨n2, av, D₂, d2, rv2, rfl, da, e1⟩ := Den.callPost (is := [D.rs.length]) (Q := fun av D₂ => av = .d .none ∧ ∃ da, D₂ = ⟨D.m, D.rs ++ [excR prog w (hp.objs.size + 1) (some da) (.ref hp.objs.size) .none] ++ [dictR da [("ball", b)]]⟩) st.2 (.cons get_last .nil) (by
          rintro av rs' nw ⟨h1, da, rfl, rfl⟩
          refine ⟨h1, da, ?_⟩
          show DS.mk D.m ((D.rs ++ [_]).set D.rs.length _ ++ _) = _
          rw [set_last]) q
        obtain rfl := rv2.none_
        subst e1
        wp_walk
        exact ⟨st.1.trans n2, _, _, d2, .v _, h _ _ _⟩
      | _ => exact q.elim
end
end Mine
end
section
open PySem PySem.W PySem.Builtin PySem.Builtin.ObjectAttr
set_option maxRecDepth 100000
namespace Mine
set_option genInjectivity false in
set_option genSizeOf false in
/-- where an exception's trace stands -/
inductive TR where
  | un
  | tr (T : Addr) (fl : Value)
noncomputable def TR.feet : TR → List Addr
  | .un => []
  | .tr T _ => [T]
noncomputable def TR.head : TR → Value
  | .un => .none
  | .tr T _ => .ref T
noncomputable def TR.ok (h : Heap) : TR → Prop
  | .un => True
  | .tr T fl => ∃ oT ts, h.get? T = some oT ∧ oT.cls = .type "traceback" ∧ oT.data = .fields ts ∧ ts[3]? = some fl
noncomputable def exX (e da : Addr) (v0 : Value) (t : TR) : Reg where
  foot := e :: t.feet
  P := fun h => h.get? e = some (excObj (some da) v0 t.head) ∧ t.ok h
  loc := fun {h h'} k q ⟨a, b⟩ => ⟨q e (by simp) _ a, by
    cases t with
    | un => trivial
    | tr T fl => obtain ⟨oT, ts, h1, h2⟩ := b; exact ⟨oT, ts, q T (by simp [TR.feet]) _ h1, h2⟩⟩
  live := fun {h} ⟨a, b⟩ y hy => by
    rcases List.mem_cons.mp hy with rfl | hy
    · exact ⟨_, a, exc_notTp⟩
    · cases t with
      | un => cases hy
      | tr T fl =>
        obtain ⟨oT, ts, h1, h2, _⟩ := b
        rw [List.mem_singleton.mp hy]
        exact ⟨oT, h1, notTp_cls h2⟩
noncomputable abbrev frs (A : Around) : List Addr := (A.frames.getD []).filterMap (·.frame)
/-- what is known of the frames below -/
structure Outs {w : World} (C : Cx w) (env : Env) : Prop where
  fr : ∃ outer, C.A.frames = some (env :: outer) ∧ ∀ x ∈ outer, x.scope.kind ≠ .module ∧ ∃ L, x.frame = some L
  self : env.frame = some C.L
  kind : env.scope.kind ≠ .module
  loc : env.locals = C.L
  out : ∀ a ∈ frs C.A, a = C.L ∨ (C.h₁.get? a = none ∧ a ∉ C.own ∧ a < C.s₀.heap.objs.size ∧ ∃ o es n, C.s₀.heap.get? a = some o ∧ o.data = .dict es n)
  new : C.h₁.objs.size ≤ C.L
structure DenX {w : World} (C : Cx w) (D : DS) (s : Shared) : Prop where
  nxt : Nxt C.s₀ s
  base : ∀ a o, C.h₁.get? a = some o → s.heap.get? a = some o
  keep : ∀ a o, C.s₀.heap.get? a = some o → a ∉ C.own → a ∉ frs C.A → s.heap.get? a = some o
  slot : ∀ a o, C.s₀.heap.get? a = some o → a ∉ C.own → a ∈ frs C.A → ∃ sl, s.heap.get? a = some { o with slots := sl }
  size : C.s₀.heap.objs.size ≤ s.heap.objs.size
  ns : RNs s.heap C.L D.m
  regs : ∀ r ∈ D.rs, r.P s.heap
  nodup : (C.L :: feet D.rs).Nodup
  fresh : ∀ a ∈ C.L :: feet D.rs, C.h₁.objs.size ≤ a ∧ (a ∈ C.own ∨ C.s₀.heap.objs.size ≤ a)
theorem slots_eta (o : Obj) : { o with slots := o.slots } = o := rfl
theorem Den.x {w : World} {C : Cx w} {D : DS} {s : Shared} (d : Den C D s) : DenX C D s :=
  ⟨d.nxt, d.base, fun a o e q _ => d.keep a o e q, fun a o e q _ => ⟨o.slots, d.keep a o e q⟩, d.size, d.ns, d.regs, d.nodup, d.fresh⟩
theorem DenX.notTp {w : World} {C : Cx w} {D : DS} {s : Shared} (d : DenX C D s) {a : Addr} (h : a ∈ C.L :: feet D.rs) : NotTp s.heap a := by
  rcases List.mem_cons.mp h with rfl | h
  · exact d.ns.notTp
  · obtain ⟨r, hr, ha⟩ := mem_feet.mp h
    exact r.live (d.regs r hr) a ha
theorem DenX.perm {w : World} {C : Cx w} {D : DS} {s : Shared} (d : DenX C D s) {rs : List Reg} (p : D.rs.Perm rs) : DenX C ⟨D.m, rs⟩ s := by
  have pf := (p.flatMap_right Reg.foot)
  exact ⟨d.nxt, d.base, d.keep, d.slot, d.size, d.ns, fun r h => d.regs r (p.mem_iff.mpr h), List.nodup_cons.mpr ⟨fun q => (List.nodup_cons.mp d.nodup).1 (pf.mem_iff.mpr q), pf.nodup_iff.mp (List.nodup_cons.mp d.nodup).2⟩, fun a ha => by
    rcases List.mem_cons.mp ha with rfl | ha
    · exact d.fresh _ (.head _)
    · exact d.fresh a (.tail _ (pf.mem_iff.mpr ha))⟩
theorem DenX.sub {w : World} {C : Cx w} {D : DS} {s : Shared} (d : DenX C D s) {rs : List Reg} (p : rs.Sublist D.rs) : DenX C ⟨D.m, rs⟩ s :=
  ⟨d.nxt, d.base, d.keep, d.slot, d.size, d.ns, fun r h => d.regs r (p.subset h), List.nodup_cons.mpr ⟨fun q => (List.nodup_cons.mp d.nodup).1 ((feet_sublist p).subset q), (feet_sublist p).nodup (List.nodup_cons.mp d.nodup).2⟩, fun a ha => by
    rcases List.mem_cons.mp ha with rfl | ha
    · exact d.fresh _ (.head _)
    · exact d.fresh a (.tail _ ((feet_sublist p).subset ha))⟩
/-- the frames' objects, at a later state -/
theorem DenX.frames {w : World} {C : Cx w} {D : DS} {s : Shared} {env : Env} (d : DenX C D s) (O : Outs C env) : ∃ outer, C.A.frames = some (env :: outer) ∧ s.heap.FunFrames C.h₁ (env :: outer) ∧ ∀ a ∈ frs C.A, ∃ o es n, s.heap.get? a = some o ∧ o.data = .dict es n := by
  obtain ⟨outer, hfr, hout⟩ := O.fr
  have fr' : frs C.A = (env :: outer).filterMap (·.frame) := by unfold frs; rw [hfr]; rfl
  have all : ∀ a ∈ frs C.A, C.h₁.get? a = none ∧ ∃ o es n, s.heap.get? a = some o ∧ o.data = .dict es n := by
    intro a ha
    rcases O.out a ha with rfl | ⟨h1, h2, h3, o, es, n, h4, h5⟩
    · obtain ⟨mv, ⟨o, es, ep, ho, hd, _⟩, _⟩ := d.ns
      refine ⟨?_, o, es, ep, ho, hd⟩
      cases q : C.h₁.get? C.L with
      | none => rfl
      | some o' => exact absurd (Heap.lt_size q) (Nat.not_lt.mpr O.new)
    · obtain ⟨sl, h6⟩ := d.slot a o h4 h2 ha
      exact ⟨h1, _, es, n, h6, h5⟩
  refine ⟨outer, hfr, ?_, fun a ha => (all a ha).2⟩
  have go : ∀ l : List Env, (∀ x ∈ l, x.scope.kind ≠ .module ∧ ∃ L, x.frame = some L ∧ L ∈ frs C.A) → s.heap.FunFrames C.h₁ l := by
    intro l
    induction l with
    | nil => intro _; trivial
    | cons x l ih =>
      intro h
      obtain ⟨k1, L, k2, k3⟩ := h x (.head _)
      obtain ⟨h1, o, es, n, h2, h3⟩ := all L k3
      exact ⟨k1, ⟨L, o, k2, h1, h2, fun vs e => by rw [h3] at e; cases e⟩, ih fun y hy => h y (.tail _ hy)⟩
  refine go _ fun x hx => ?_
  rcases List.mem_cons.mp hx with rfl | hx
  · exact ⟨O.kind, C.L, O.self, by rw [fr']; exact List.mem_filterMap.mpr ⟨_, .head _, O.self⟩⟩
  · obtain ⟨k1, L, k2⟩ := hout x hx
    exact ⟨k1, L, k2, by rw [fr']; exact List.mem_filterMap.mpr ⟨x, .tail _ hx, k2⟩⟩
/-- a step of the trace: frames change in their slots, and the exception's own objects -/
theorem DenX.trace {w : World} {C : Cx w} {m : Lc} {rs : List Reg} {s : Shared} {env : Env} {e da : Addr} {v0 : Value} {t t' : TR} (d : DenX C ⟨m, exX e da v0 t :: rs⟩ s) (O : Outs C env) {h' : Heap}
    (hk : ∀ a o, a ∉ frs C.A → a ∉ e :: t.feet → s.heap.get? a = some o → h'.get? a = some o)
    (hs : ∀ a o, a ∈ frs C.A → s.heap.get? a = some o → ∃ sl, h'.get? a = some { o with slots := sl })
    (hx : (exX e da v0 t').P h') (ht : ∀ a ∈ t'.feet, a ∈ t.feet ∨ s.heap.objs.size ≤ a) (htn : e ∉ t'.feet ∧ t'.feet.Nodup) : Nxt s { s with heap := h' } ∧ DenX C ⟨m, exX e da v0 t' :: rs⟩ { s with heap := h' } := by
  obtain ⟨outer, hfr, hff, hdict⟩ := d.frames O
  have inL : ∀ a ∈ e :: t.feet, a ∈ C.L :: feet (exX e da v0 t :: rs) := fun a ha => .tail _ (by rw [feet_cons]; exact List.mem_append_left _ ha)
  have nd := List.nodup_cons.mp d.nodup
  rw [show feet (DS.rs ⟨m, exX e da v0 t :: rs⟩) = (e :: t.feet) ++ feet rs from feet_cons _ _] at nd
  have nd2 := List.nodup_append.mp nd.2
  -- frames are no feet
  have apart : ∀ a ∈ frs C.A, a ∉ feet (exX e da v0 t :: rs) := fun a ha q => by
    rcases O.out a ha with rfl | ⟨h1, h2, h3, _⟩
    · exact (List.nodup_cons.mp d.nodup).1 q
    · rcases (d.fresh a (.tail _ q)).2 with z | z
      · exact h2 z
      · exact absurd h3 (Nat.not_lt.mpr z)
  have le : Le s.heap h' := fun a o q tp => by
    by_cases ha : a ∈ frs C.A
    · obtain ⟨o', es, n, h1, h2⟩ := hdict a ha
      rw [q] at h1; cases h1
      obtain ⟨_, xs, n', h3⟩ := tp
      rw [h2] at h3; cases h3
    · refine hk a o ha (fun z => ?_) q
      obtain ⟨o', e', t'⟩ := d.notTp (inL a z)
      rw [q] at e'; cases e'; exact t' tp
  have nx : Nxt s { s with heap := h' } := ⟨le, h', s.toks, rfl⟩
  have nsL : RNs h' C.L m := by
    obtain ⟨mv, ⟨o, es, ep, ho, hd, hr⟩, r2⟩ := d.ns
    have : ∃ sl, h'.get? C.L = some { o with slots := sl } := by
      by_cases ha : C.L ∈ frs C.A
      · exact hs _ _ ha ho
      · exact ⟨o.slots, hk _ _ ha (fun z => nd.1 (List.mem_append_left _ z)) ho⟩
    obtain ⟨sl, h1⟩ := this
    exact ⟨mv, ⟨_, es, ep, h1, hd, hr⟩, r2.1, fun x av q => let ⟨v, z1, z2⟩ := r2.2 x av q; ⟨v, z1, z2.le le⟩⟩
  have keepS : ∀ a o, C.h₁.get? a = some o → h'.get? a = some o := fun a o q => by
    refine hk a o (fun ha => ?_) (fun z => ?_) (d.base a o q)
    · rcases O.out a ha with rfl | ⟨h1, _⟩
      · exact absurd (Heap.lt_size q) (Nat.not_lt.mpr O.new)
      · rw [q] at h1; cases h1
    · exact absurd (Heap.lt_size q) (Nat.not_lt.mpr (d.fresh a (inL a z)).1)
  have own : ∀ a ∈ e :: t.feet, a ∈ C.own ∨ C.s₀.heap.objs.size ≤ a := fun a ha => (d.fresh a (inL a ha)).2
  have sz : s.heap.objs.size ≤ h'.objs.size ∨ True := .inr trivial
  refine ⟨nx, d.nxt.trans nx, keepS, fun a o q h1 h2 => hk a o h2 (fun z => ?_) (d.keep a o q h1 h2), fun a o q h1 h2 => ?_, Nat.le_trans C.hL (Nat.le_of_lt nsL.notTp.lt), nsL, fun r hr => ?_, ?_, fun a ha => ?_⟩
  · rcases own a z with z | z
    · exact h1 z
    · exact absurd (Heap.lt_size q) (Nat.not_lt.mpr z)
  · obtain ⟨sl, h3⟩ := d.slot a o q h1 h2
    obtain ⟨sl', h4⟩ := hs a _ h2 h3
    exact ⟨sl', h4⟩
  · rcases List.mem_cons.mp hr with rfl | hr
    · exact hx
    · refine r.loc le (fun a ha o q => ?_) (d.regs r (.tail _ hr))
      have ha' : a ∈ feet rs := mem_feet.mpr ⟨r, hr, ha⟩
      exact hk a o (fun z => apart a z (by rw [feet_cons]; exact List.mem_append_right _ ha')) (fun z => nd2.2.2 a z a ha' rfl) q
  · show (C.L :: feet (exX e da v0 t' :: rs)).Nodup
    rw [feet_cons]
    show (C.L :: ((e :: t'.feet) ++ feet rs)).Nodup
    have lt : ∀ a ∈ C.L :: feet (exX e da v0 t :: rs), a < s.heap.objs.size := fun a ha => (d.notTp ha).lt
    refine List.nodup_cons.mpr ⟨fun q => ?_, List.nodup_append.mpr ⟨List.nodup_cons.mpr ⟨htn.1, htn.2⟩, nd2.2.1, fun a ha b hb q => ?_⟩⟩
    · rcases List.mem_append.mp q with q | q
      · rcases List.mem_cons.mp q with q | q
        · exact nd.1 (List.mem_append_left _ (q ▸ .head _))
        · rcases ht _ q with z | z
          · exact nd.1 (List.mem_append_left _ (.tail _ z))
          · exact absurd (lt _ (.head _)) (Nat.not_lt.mpr z)
      · exact nd.1 (List.mem_append_right _ q)
    · subst q
      rcases List.mem_cons.mp ha with q | q
      · exact nd2.2.2 a (q ▸ .head _) a hb rfl
      · rcases ht _ q with z | z
        · exact nd2.2.2 a (.tail _ z) a hb rfl
        · exact absurd (lt a (.tail _ (by rw [feet_cons]; exact List.mem_append_right _ hb))) (Nat.not_lt.mpr z)
  · rcases List.mem_cons.mp ha with rfl | ha
    · exact d.fresh _ (.head _)
    · have ha : a ∈ feet (exX e da v0 t' :: rs) := ha
      rw [feet_cons] at ha
      rcases List.mem_append.mp ha with ha | ha
      · rcases List.mem_cons.mp ha with rfl | ha
        · exact d.fresh _ (inL _ (.head _))
        · rcases ht _ ha with z | z
          · exact d.fresh _ (inL _ (.tail _ z))
          · exact ⟨Nat.le_trans C.big (Nat.le_trans d.size z), .inr (Nat.le_trans d.size z)⟩
      · exact d.fresh a (.tail _ (by rw [feet_cons]; exact List.mem_append_right _ ha))
section
variable {prog : Program} {w : World} {C : Cx w} {E : Value → Shared → Prop} {env : Env} {m : Lc} {rs : List Reg} {e da : Addr} {v0 : Value} {t : TR} {s : Shared}
theorem TR.feet_keep {h h' : Heap} {t : TR} (x : t.ok h) (k : ∀ a ∈ t.feet, ∀ o, h.get? a = some o → h'.get? a = some o) : t.ok h' := by
  cases t with
  | un => trivial
  | tr T fl => obtain ⟨oT, ts, h1, h2⟩ := x; exact ⟨oT, ts, k T (.head _) _ h1, h2⟩
/-- a new entry of the trace -/
theorem entryX {head : Value} {hadNext : Bool} {Q : Unit → Shared → Prop} (d : DenX C ⟨m, exX e da v0 t :: rs⟩ s) (O : Outs C env)
    (h : ∀ T h', Nxt s { s with heap := h' } ∧ DenX C ⟨m, exX e da v0 (.tr T (rawInt C.L)) :: rs⟩ { s with heap := h' } → Q () { s with heap := h' }) :
    wpAny (model prog w) C.A (do let a ← frameOf env; let pl ← entryPlaceOf C.L hadNext; let b ← EntryCells.newEntry head a .none (rawInt C.L) .none pl; setField (.ref e) 1 b) Q E s := by
  obtain ⟨outer, hfr, hff, hdict⟩ := d.frames O
  have fr' : frs C.A = (env :: outer).filterMap (·.frame) := by unfold frs; rw [hfr]; rfl
  obtain ⟨he, hok⟩ := d.regs _ (.head _)
  have nd := List.nodup_cons.mp d.nodup
  have eNot : e ∉ frs C.A := fun q => by
    obtain ⟨o, es, n, h1, h2⟩ := hdict e q
    rw [he] at h1; cases h1; cases h2
  refine wpAny_bind (wpAny_frameOf_fun hfr hff O.self fun h₁ hs₁ => ?_)
  refine wpAny_bind (wpAny_entryPlaceOf fun pl hpl => ?_)
  unfold EntryCells.newEntry newFields
  refine wpAny_bind (wpAny_newObj_type ?_ (hpl.sizeOk5 _ _ _ _ _))
  have he₁ : h₁.get? e = some (excObj (some da) v0 t.head) := (hs₁.2.1 e (fr' ▸ eNot)).trans he
  have he₂ := push_keeps h₁ { cls := .type "traceback", dict := none, data := .fields ([head, .ref C.L, .none, rawInt C.L, .none] ++ (if pl.isEmpty then List.replicate 6 Value.none else pl)).toArray } _ _ he₁
  refine wpAny_setField he₂ rfl (by simp) (h h₁.objs.size _ (d.trace O (t' := .tr h₁.objs.size (rawInt C.L)) (fun a o q1 q2 q => ?_) (fun a o q1 q => ?_) ⟨?_, ?_⟩ (fun a ha => .inr ?_) ⟨?_, by simp [TR.feet]⟩))
  · have : a ≠ e := fun z => q2 (z ▸ .head _)
    rw [Heap.get?_update_other _ _ (Ne.symm this)]
    exact push_keeps _ _ _ _ ((hs₁.2.1 a (fr' ▸ q1)).trans q)
  · obtain ⟨sl, h2⟩ := hs₁.2.2 a o q
    have : a ≠ e := fun z => eNot (z ▸ q1)
    exact ⟨sl, by rw [Heap.get?_update_other _ _ (Ne.symm this)]; exact push_keeps _ _ _ _ h2⟩
  · rw [Heap.get?_update_self _ he₂ rfl]; rfl
  · have hne : h₁.objs.size ≠ e := Nat.ne_of_gt (Heap.lt_size he₁)
    refine ⟨_, _, (Heap.get?_update_other _ _ (Ne.symm hne)).trans (Heap.get?_push_size h₁ rfl), rfl, rfl, ?_⟩
    simp
  · rw [List.mem_singleton.mp ha, ← hs₁.1]; exact Nat.le_refl _
  · intro q
    rw [List.mem_singleton.mp q, hs₁.1] at he
    exact absurd (Heap.lt_size he) (Nat.lt_irrefl _)
/-- the flight's mark is set -/
theorem flightX {T : Addr} {fl : Value} {f : Option Addr} {Q : Unit → Shared → Prop} (d : DenX C ⟨m, exX e da v0 (.tr T fl) :: rs⟩ s) (O : Outs C env)
    (h : ∀ h', Nxt s { s with heap := h' } ∧ DenX C ⟨m, exX e da v0 (.tr T (f.elim .none fun f => rawInt f)) :: rs⟩ { s with heap := h' } → Q () { s with heap := h' }) : wpAny (model prog w) C.A (setFlight (.ref e) f) Q E s := by
  obtain ⟨outer, hfr, hff, hdict⟩ := d.frames O
  obtain ⟨he, oT, ts, hT, hTc, hTd, h3⟩ := d.regs _ (.head _)
  have nd := List.nodup_cons.mp d.nodup
  have neT : e ≠ T := fun q => by
    have := (List.nodup_append.mp ((feet_cons _ _ ▸ nd.2 : ((exX e da v0 (.tr T fl)).foot ++ feet rs).Nodup))).1
    subst q; simp [exX, TR.feet] at this
  have hsz3 : 3 < ts.size := (Array.getElem?_eq_some_iff.mp h3).1
  unfold setFlight
  refine wpAny_bind (wpAny_field he rfl (x := .ref T) rfl ?_)
  rw [if_pos (show (Value.ref T != Value.none) = true from by simp)]
  have tNot : T ∉ frs C.A := fun q => by
    obtain ⟨o, es, n, h1, h2⟩ := hdict T q
    rw [hT] at h1; cases h1; rw [hTd] at h2; cases h2
  have hdm := Obj.data_mapFields hTd (·.setIfInBounds 3 (f.elim Value.none fun f => rawInt f))
  refine wpAny_setField hT hTd hsz3 (h _ (d.trace O (t' := .tr T (f.elim .none fun f => rawInt f)) (fun a o q1 q2 q => ?_) (fun a o q1 q => ⟨o.slots, ?_⟩) ⟨?_, _, _, Heap.get?_update_self _ hT (Obj.isFreed_of_fields hdm), (Obj.cls_mapFields _ _).trans hTc, hdm, by simp [hsz3]⟩ (fun a ha => .inl ha) ⟨by simp [TR.feet, neT], by simp [TR.feet]⟩))
  · have : a ≠ T := fun z => q2 (z ▸ .tail _ (.head _))
    rw [Heap.get?_update_other _ _ (Ne.symm this)]; exact q
  · have : a ≠ T := fun z => tNot (z ▸ q1)
    rw [Heap.get?_update_other _ _ (Ne.symm this)]; exact q
  · rw [Heap.get?_update_other _ _ (Ne.symm neT)]; exact he
theorem rawInt_ne_none (n : Nat) : (Value.none == rawInt n) = false := rfl
/-- the frame is noted -/
theorem noteX {Q : Unit → Shared → Prop} (d : DenX C ⟨m, exX e da v0 t :: rs⟩ s) (O : Outs C env)
    (h : ∀ T h', Nxt s { s with heap := h' } ∧ DenX C ⟨m, exX e da v0 (.tr T (rawInt C.L)) :: rs⟩ { s with heap := h' } → Q () { s with heap := h' }) : wpAny (model prog w) C.A (noteFrame (.ref e) env) Q E s := by
  unfold noteFrame
  simp only [O.self]
  cases t with
  | un =>
    obtain ⟨he, hok⟩ := d.regs _ (.head _)
    refine wpAny_bind (wpAny_field he rfl (x := .none) rfl ?_)
    rw [if_neg (by decide)]
    exact entryX d O h
  | tr T fl =>
    obtain ⟨he, oT, ts, hT, hTc, hTd, h3⟩ := d.regs _ (.head _)
    refine wpAny_bind (wpAny_field he rfl (x := .ref T) rfl ?_)
    rw [if_pos (show (Value.ref T != Value.none) = true from by simp)]
    refine wpAny_bind (wpAny_field hT hTd h3 ?_)
    by_cases hf : (fl == rawInt C.L) = true
    · rw [if_pos hf]
      have e1 : fl = rawInt C.L := by simpa using hf
      subst e1
      exact wpAny_pure (h T s.heap ⟨⟨.refl _, s.heap, s.toks, rfl⟩, d⟩)
    · rw [if_neg hf]
      have hsz3 : 3 < ts.size := (Array.getElem?_eq_some_iff.mp h3).1
      obtain ⟨outer, hfr, hff, hdict⟩ := d.frames O
      have nd := List.nodup_cons.mp d.nodup
      have neT : e ≠ T := fun q => by
        have := (List.nodup_append.mp ((feet_cons _ _ ▸ nd.2 : ((exX e da v0 (.tr T fl)).foot ++ feet rs).Nodup))).1
        subst q; simp [exX, TR.feet] at this
      have tNot : T ∉ frs C.A := fun q => by
        obtain ⟨o, es, n, h1, h2⟩ := hdict T q
        rw [hT] at h1; cases h1; rw [hTd] at h2; cases h2
      have hdm := Obj.data_mapFields hTd (·.setIfInBounds 3 Value.none)
      have st := d.trace O (t' := .tr T .none) (h' := s.heap.update T (Obj.mapFields (·.setIfInBounds 3 Value.none))) (fun a o q1 q2 q => by
          have : a ≠ T := fun z => q2 (z ▸ .tail _ (.head _))
          rw [Heap.get?_update_other _ _ (Ne.symm this)]; exact q) (fun a o q1 q => ⟨o.slots, by
          have : a ≠ T := fun z => tNot (z ▸ q1)
          rw [Heap.get?_update_other _ _ (Ne.symm this)]; exact q⟩)
        ⟨by rw [Heap.get?_update_other _ _ (Ne.symm neT)]; exact he, _, _, Heap.get?_update_self _ hT (Obj.isFreed_of_fields hdm), (Obj.cls_mapFields _ _).trans hTc, hdm, by simp [hsz3]⟩ (fun a ha => .inl ha) ⟨by simp [TR.feet, neT], by simp [TR.feet]⟩
      refine wpAny_bind (wpAny_setField hT hTd hsz3 ?_)
      refine entryX st.2 O fun T' h' q => h T' h' ⟨st.1.trans q.1, q.2⟩
/-- an exception is under way: its ball, and the regions beside it -/
noncomputable def EX {w : World} (C : Cx w) (Q : AV → List Reg → Prop) (v : Value) (s : Shared) : Prop :=
  ∃ m e da v0 t ball rs, v = .ref e ∧ DenX C ⟨m, exX e da v0 t :: (dictR da [("ball", ball)] :: rs)⟩ s ∧ Q ball rs
theorem EX.passes {Q : AV → List Reg → Prop} (O : Outs C env) : PassesOwn (model prog w) C.A env (EX C Q) := by
  rintro _ s ⟨m, e, da, v0, t, ball, rs, rfl, d, q⟩
  refine noteX d O fun T h' d' => ?_
  have hd := d'.2
  obtain ⟨he, hok⟩ := hd.regs _ (.head _)
  refine wpAny_bind (wpAny_field he rfl (x := .ref T) rfl ?_)
  rw [if_neg (show ¬ ((Value.ref T == Value.none) = true) from by simp)]
  rw [O.self]
  exact flightX hd O fun h'' d'' => ⟨m, e, da, v0, _, ball, rs, rfl, d''.2, q⟩
end
end Mine
end
section
open PySem PySem.W PySem.Builtin PySem.Builtin.ObjectAttr
set_option maxRecDepth 100000
namespace Mine
/-- what a called def leaves when it raises -/
noncomputable def XPost (A : Around) (rs : List Reg) (Q : AV → List Reg → Prop) (s : Shared) (v : Value) (s' : Shared) : Prop :=
  Nxt s s' ∧ s.heap.objs.size ≤ s'.heap.objs.size ∧ (∀ a o, a ∉ feet rs → a ∉ frs A → s.heap.get? a = some o → s'.heap.get? a = some o) ∧
  (∀ a o, a ∉ feet rs → a ∈ frs A → s.heap.get? a = some o → ∃ sl, s'.heap.get? a = some { o with slots := sl }) ∧
  ∃ e da v0 T ball rs', v = .ref e ∧ (∀ r ∈ exX e da v0 (.tr T .none) :: (dictR da [("ball", ball)] :: rs'), r.P s'.heap) ∧ rs'.map Reg.foot = rs.map Reg.foot ∧ [e, T, da].Nodup ∧ (∀ a ∈ [e, T, da], s.heap.objs.size ≤ a) ∧ Q ball rs'
structure PreX {w : World} (h₁ : Heap) (A : Around) (n : Nat) (rs : List Reg) (args : List AV) (s : Shared) (vals : List Value) : Prop extends Pre (w := w) h₁ A n rs args s vals where
  fr : ∃ l, A.frames = some l ∧ ∀ x ∈ l, x.scope.kind ≠ .module ∧ ∃ L, x.frame = some L
  out : ∀ a ∈ frs A, h₁.get? a = none ∧ a ∉ feet rs ∧ ∃ o es n, s.heap.get? a = some o ∧ o.data = .dict es n
noncomputable def FnX (prog : Program) (w : World) (f : Value) (n : Nat) (args : List AV) (rs : List Reg) (Q : AV → List Reg → List Reg → Prop) (Qx : AV → List Reg → Prop) : Prop :=
  ∀ (h₁ : Heap) (A : Around) (s : Shared) (vals : List Value), PreX (w := w) h₁ A n rs args s vals →
    codeAny (model prog w) A (.call f ⟨vals, []⟩) (fun r s' => match r with | .ok (.ret v) => FnPost rs Q s v s' | .error e => XPost A rs Qx s e s' | _ => False) s
/-- how a body ends that raises -/
noncomputable def FnEndX (rs : List Reg) (Qx : AV → List Reg → Prop) (ball : AV) (rs₁ : List Reg) : Prop := ∃ rs' junk, rs₁.Perm (rs' ++ junk) ∧ rs'.map Reg.foot = rs.map Reg.foot ∧ Qx ball rs'
section
variable {prog : Program} {w : World}
theorem fnX_body {f : Addr} {oc : Value} {od : Option Addr} {fd : FuncData} {osl : Array (Option Value)} {body : List Stmt} {n : Nat} {args : List AV} {rs : List Reg} {Q : AV → List Reg → List Reg → Prop} {Qx : AV → List Reg → Prop} (ps others : List Str)
    (ho : (KK w).lookup f = some ⟨oc, od, .func fd, osl⟩) (hb : fd.body = .stmts body) (hcd : codeIn (KK w) fd.code fd.qualname = true)
    (hbind : ∀ vals : List Value, vals.length = args.length → bindArgs fd ⟨vals, []⟩ = pure (ps.zip vals)) (hl : ps.length = args.length)
    (hcell : ∀ x ∈ fd.scope.names, x.2 ≠ .cell) (hloc : ∀ x ∈ ps, fd.scope.names.lookup x = some .local) (hnd : (ps ++ others).Nodup)
    (h : ∀ C : Cx w, C.lv = n → C.own = feet rs → Outs C (callEnv fd C.L f) → SV prog w C (EX C (FnEndX rs Qx)) (execs body (callEnv fd C.L f)) ⟨locals0 ps args others, rs⟩ (FnEnd rs Q))
    (hco : fd.scope.isCoroutine = false) (hgen : fd.scope.isGenerator = false) (hk : fd.scope.kind = .function) : FnX prog w (.ref f) (n + 1) args rs Q Qx := fun h₁ A s vals p => by
  have X := p.bs.K.keeps p.base
  have lv : vals.length = args.length := p.vals.length
  refine codeAny_call_def (fd := fd) (body := body) (binds := ps.zip vals) (by have := p.depth; show _ < 1000; omega) (X _ _ ho) rfl (p.bs.nolimit.keeps p.base) (codeRec_of X hcd) hb (BindsTo.of_eq (hbind vals lv)) hcell
    (fun x hx => hloc x.1 (List.of_mem_zip hx).1) (fun h₀ hns hk₁ => ?_) hco hgen hk
  have psn : ps.Nodup := (List.nodup_append.mp hnd).1
  let C : Cx w := { h₁ := h₁, bs := p.bs, s₀ := s, own := feet rs, L := s.heap.objs.size, big := p.big, hL := Nat.le_refl _, A := A.deeper (callEnv fd s.heap.objs.size f), lv := n, handled := p.handled,
                    depth := by have := p.depth; show A.depth + 1 + n ≤ 900; omega, units := by have := p.units; show A.units + 3 + 20 * n ≤ 9000; omega }
  obtain ⟨l, hfr, hl'⟩ := p.fr
  have hfr' : C.A.frames = some (callEnv fd s.heap.objs.size f :: l) := Around.frames_deeper hfr
  have frsC : frs C.A = s.heap.objs.size :: frs A := by
    show (C.A.frames.getD []).filterMap (·.frame) = _
    rw [hfr']
    show _ = s.heap.objs.size :: (A.frames.getD []).filterMap (·.frame)
    rw [hfr]
    rfl
  have O : Outs C (callEnv fd C.L f) := by
    refine ⟨⟨l, hfr', hl'⟩, rfl, by show fd.scope.kind ≠ .module; rw [hk]; exact fun e => (nomatch e), rfl, fun a ha => ?_, p.big⟩
    rw [frsC] at ha
    rcases List.mem_cons.mp ha with rfl | ha
    · exact .inl rfl
    · obtain ⟨h1, h2, o, es, n', h3, h4⟩ := p.out a ha
      exact .inr ⟨h1, h2, Heap.lt_size h3, o, es, n', h3, h4⟩
  have hz : s.heap.objs.size ≤ h₀.objs.size := by obtain ⟨o, _, _, e, _⟩ := hns; exact Nat.le_of_lt (Heap.lt_size e)
  have le : Le s.heap h₀ := .of_keeps hk₁
  have nx : Nxt s { s with heap := h₀, toks := s.toks + (ps.zip vals).length } := ⟨le, _, _, rfl⟩
  have den : Den C ⟨locals0 ps args others, rs⟩ { s with heap := h₀, toks := s.toks + (ps.zip vals).length } := by
    refine ⟨nx, fun a o e => hk₁ a o (p.base a o e), fun a o e _ => hk₁ a o e, hz, ⟨_, hns, ?_, fun x av hm => ?_⟩, fun r hr => r.loc le (fun a _ o e => hk₁ a o e) (p.regs r hr), ?_, fun a ha => ?_⟩
    · have : (locals0 ps args others).map (·.1) = ps ++ others := by
        unfold locals0
        rw [List.map_append, List.map_map, List.map_map]
        have e1 : (ps.zip args).map ((fun x : Str × Option AV => x.1) ∘ fun p => (p.1, some p.2)) = ps := by
          rw [show ((fun x : Str × Option AV => x.1) ∘ fun p : Str × AV => (p.1, some p.2)) = Prod.fst from rfl, List.map_fst_zip (Nat.le_of_eq hl)]
        rw [e1]
        congr 1
        exact List.map_id' others
      rw [this]; exact hnd
    · unfold locals0 at hm
      rcases List.mem_append.mp hm with hm | hm
      · obtain ⟨q, hq, e⟩ := List.mem_map.mp hm
        obtain ⟨i, hi⟩ := List.mem_iff_getElem?.mp hq
        rw [List.getElem?_zip_eq_some] at hi
        cases e
        obtain ⟨v, hv1, hv2⟩ := p.vals.get hi.2
        exact ⟨v, zip_reverse_lookup (by omega) psn hi.1 hv1, hv2.le le⟩
      · obtain ⟨q, _, e⟩ := List.mem_map.mp hm
        cases e
    · refine List.nodup_cons.mpr ⟨fun q => ?_, p.nodup⟩
      obtain ⟨r, h1, h2⟩ := mem_feet.mp q
      exact absurd (r.live (p.regs r h1) _ h2).lt (Nat.lt_irrefl _)
    · rcases List.mem_cons.mp ha with rfl | ha
      · exact ⟨p.big, .inr (Nat.le_refl _)⟩
      · exact ⟨p.fresh a ha, .inl ha⟩
  refine wpAny_mono (h C rfl rfl O _ den) (fun fl s' q => ?_) (fun v s' q => ?_)
  · obtain ⟨n', b, D', d', rf, rs', nw, junk, pm, hf, q⟩ := q
    have hv := flow_val rf
    have dd := d'.perm pm
    have nd := List.nodup_cons.mp dd.nodup
    have fe : feet rs' = feet rs := feet_of_map hf
    have e1 : feet (rs' ++ nw ++ junk) = feet rs ++ (feet nw ++ feet junk) := by rw [feet_append, feet_append, fe, List.append_assoc]
    rw [show feet (DS.rs ⟨D'.m, rs' ++ nw ++ junk⟩) = feet rs ++ (feet nw ++ feet junk) from e1, List.nodup_append] at nd
    obtain ⟨-, nd1, nd2, nd3⟩ := nd
    have nd2' := List.nodup_append.mp nd2
    refine ⟨nx.trans n', dd.size, fun a o q e => dd.keep a o e q, flav b, rs', nw, hv, fun r hr => dd.regs r (List.mem_append_left _ hr), hf, nd2'.1, fun a ha => ?_, q⟩
    rcases (dd.fresh a (.tail _ (by show a ∈ feet (rs' ++ nw ++ junk); rw [e1]; exact List.mem_append_right _ (List.mem_append_left _ ha)))).2 with z | z
    · exact absurd rfl (nd3 a z a (List.mem_append_left _ ha))
    · exact z
  · obtain ⟨m, e, da, v0, t, ball, rs₁, rfl, d, rs', junk, pm, hf, q⟩ := q
    unfold leaving
    refine wpAny_bind (noteX d O fun T h' d' => flightX d'.2 O (f := none) fun h'' d'' => ?_)
    have dd := d''.2.perm ((pm.cons _).cons _)
    have nd := List.nodup_cons.mp dd.nodup
    have fe : feet rs' = feet rs := feet_of_map hf
    have e1 : feet (exX e da v0 (.tr T .none) :: (dictR da [("ball", ball)] :: (rs' ++ junk))) = [e, T, da] ++ (feet rs ++ feet junk) := by rw [feet_cons, feet_cons, feet_append, fe]; rfl
    have nd1 : ([e, T, da] ++ (feet rs ++ feet junk)).Nodup := by rw [← e1]; exact nd.2
    have nd2 := List.nodup_append.mp nd1
    refine ⟨dd.nxt, dd.size, fun a o q1 q2 q3 => dd.keep a o q3 q1 (fun z => ?_), fun a o q1 q2 q3 => dd.slot a o q3 q1 (by rw [frsC]; exact .tail _ q2), e, da, v0, T, ball, rs', rfl, fun r hr => dd.regs r ?_, hf, nd2.1, fun a ha => ?_, q⟩
    · rw [frsC] at z
      rcases List.mem_cons.mp z with rfl | z
      · exact absurd (Heap.lt_size q3) (Nat.lt_irrefl _)
      · exact q2 z
    · rcases List.mem_cons.mp hr with rfl | hr
      · exact .head _
      · rcases List.mem_cons.mp hr with rfl | hr
        · exact .tail _ (.head _)
        · exact .tail _ (.tail _ (List.mem_append_left _ hr))
    · rcases (dd.fresh a (.tail _ (by show a ∈ feet (exX e da v0 (.tr T .none) :: (dictR da [("ball", ball)] :: (rs' ++ junk))); rw [e1]; exact List.mem_append_left _ ha))).2 with z | z
      · exact absurd rfl (nd2.2.2 a ha a (List.mem_append_left _ z))
      · exact z
variable {C : Cx w} {D : DS} {env : Env} {pos : Pos} {E : Value → Shared → Prop}
theorem Fn.x {f : Value} {n : Nat} {l : List AV} {rs : List Reg} {Q : AV → List Reg → List Reg → Prop} {Qx : AV → List Reg → Prop} (h : Fn prog w f n l rs Q) : FnX prog w f n l rs Q Qx := fun h₁ A s vals p =>
  codeAny_mono (h h₁ A s vals p.toPre) fun r s' q => by
    cases r with
    | error e => exact q.elim
    | ok fl => cases fl with
      | ret v => exact q
      | _ => exact q
theorem Outs.at {s : Shared} (d : Den C D s) (O : Outs C env) : ∀ a ∈ frs C.A, C.h₁.get? a = none ∧ a ∉ feet D.rs ∧ ∃ o es n, s.heap.get? a = some o ∧ o.data = .dict es n := fun a ha => by
  rcases O.out a ha with rfl | ⟨h1, h2, h3, o, es, n, h4, h5⟩
  · obtain ⟨mv, ⟨o, es, ep, ho, hd, _⟩, _⟩ := d.ns
    refine ⟨?_, (List.nodup_cons.mp d.nodup).1, o, es, ep, ho, hd⟩
    cases q : C.h₁.get? C.L with
    | none => rfl
    | some o' => exact absurd (Heap.lt_size q) (Nat.not_lt.mpr O.new)
  · refine ⟨h1, fun q => ?_, o, es, n, d.keep a o h4 h2, h5⟩
    rcases (d.fresh a (.tail _ q)).2 with z | z
    · exact h2 z
    · exact absurd h3 (Nat.not_lt.mpr z)
theorem At.feet_sub {rs : List Reg} {is : List Nat} {l : List Reg} (h : At rs is l) : ∀ a ∈ feet l, a ∈ feet rs := fun a ha =>
  let ⟨r, h1, h2⟩ := mem_feet.mp ha; mem_feet.mpr ⟨r, h.mem r h1, h2⟩
theorem ol_fX {f : Value} {n : Nat} {l : List AV} {rs : List Reg} {Q₀ : AV → List Reg → List Reg → Prop} {Qx Qe : AV → List Reg → Prop} {Q : AV → DS → Prop} (hf : FnX prog w f n l rs Q₀ Qx) (is : List Nat) (O : Outs C env)
    (h : ∀ av rs' nw, Q₀ av rs' nw → Aft D is Q av rs' nw) (hx : ∀ ball rs', Qx ball rs' → Qe ball (setAll D.rs is rs'))
    (hi : pickAt D.rs is = rs.map some := by rfl) (hd : is.Nodup := by decide) (hn : n ≤ C.lv := by exact le_lv (by assumption) rfl) : OL prog w C (EX C Qe) Rv (fun vs => call f vs) l D Q := fun s vals d hv => by
  replace hi := At.of hi
  have at' := O.at d
  obtain ⟨outer, hfr, hout⟩ := O.fr
  have sub := hi.feet_sub
  refine wpAny_call (codeAny_mono (hf C.h₁ C.A s vals { d.pre hi hd hn C.handled (Nat.le_refl _) (Nat.le_refl _) hv with
      fr := ⟨_, hfr, fun x hx => ?_⟩, out := fun a ha => ⟨(at' a ha).1, fun q => (at' a ha).2.1 (sub a q), (at' a ha).2.2⟩ }) fun r s' q => ?_)
  · rcases List.mem_cons.mp hx with rfl | hx
    · exact ⟨O.kind, C.L, O.self⟩
    · exact hout x hx
  cases r with
  | ok fl => cases fl with
    | ret v => exact d.callPost hi h q
    | _ => exact q.elim
  | error v =>
    obtain ⟨n1, hz, hk, hs, e, da, v0, T, ball, rs', rfl, hr, hf', hnd, hnf, q⟩ := q
    obtain ⟨-, h', tk, rfl⟩ := id n1
    have len : is.length = rs'.length := by rw [hi.len, ← List.length_map (f := Reg.foot) (as := rs), ← hf', List.length_map]
    have ff : feet (setAll D.rs is rs') = feet D.rs := feet_of_map (setAll_foot is D.rs rs rs' (by rw [List.length_map, hi.len]) hi.foots hf')
    have e1 : feet (exX e da v0 (.tr T .none) :: (dictR da [("ball", ball)] :: setAll D.rs is rs')) = [e, T, da] ++ feet D.rs := by rw [feet_cons, feet_cons, ff]; rfl
    have le := n1.1
    have LFr : C.L ∈ frs C.A := by unfold frs; rw [hfr]; exact List.mem_filterMap.mpr ⟨env, .head _, O.self⟩
    have nL : C.L ∉ feet rs := fun z => (List.nodup_cons.mp d.nodup).1 (sub _ z)
    have own : ∀ a ∈ feet rs, a ∈ C.own ∨ C.s₀.heap.objs.size ≤ a := fun a ha => (d.fresh a (.tail _ (sub a ha))).2
    refine ⟨D.m, e, da, v0, .tr T .none, ball, setAll D.rs is rs', rfl, ⟨d.nxt.trans n1, fun a o q1 => ?_, fun a o q1 q2 q3 => ?_, fun a o q1 q2 q3 => ?_, Nat.le_trans d.size hz, ?_, fun x hx => ?_, ?_, fun a ha => ?_⟩, hx ball rs' q⟩
    · refine hk a o (fun z => ?_) (fun z => ?_) (d.base a o q1)
      · exact absurd (Heap.lt_size q1) (Nat.not_lt.mpr (d.fresh a (.tail _ (sub a z))).1)
      · rw [(at' a z).1] at q1; cases q1
    · refine hk a o (fun z => ?_) q3 (d.keep a o q1 q2)
      rcases own a z with z | z
      · exact q2 z
      · exact absurd (Heap.lt_size q1) (Nat.not_lt.mpr z)
    · refine hs a o (fun z => ?_) q3 (d.keep a o q1 q2)
      rcases own a z with z | z
      · exact q2 z
      · exact absurd (Heap.lt_size q1) (Nat.not_lt.mpr z)
    · obtain ⟨mv, ⟨o, es, ep, ho, hdd, hrr⟩, r2⟩ := d.ns
      obtain ⟨sl, h1⟩ := hs _ _ nL LFr ho
      exact ⟨mv, ⟨_, es, ep, h1, hdd, hrr⟩, r2.1, fun x av q => let ⟨v, z1, z2⟩ := r2.2 x av q; ⟨v, z1, z2.le le⟩⟩
    · rcases List.mem_cons.mp hx with rfl | hx
      · exact hr _ (.head _)
      · rcases List.mem_cons.mp hx with rfl | hx
        · exact hr _ (.tail _ (.head _))
        · obtain ⟨j, hj⟩ := List.mem_iff_getElem?.mp hx
          rcases setAll_get is D.rs rs' j x len hj with z | ⟨z1, z2⟩
          · exact hr _ (.tail _ (.tail _ z))
          · refine x.loc le (fun a ha o q => hk a o (fun z => ?_) (fun z => (at' a z).2.1 (mem_feet.mpr ⟨x, mem_of_get z2, ha⟩)) q) (d.regs x (mem_of_get z2))
            obtain ⟨r, h1, h2⟩ := mem_feet.mp z
            obtain ⟨i, i1, i2⟩ := hi.pos r h1
            exact feet_apart z2 d.rNodup i r i2 (fun e => z1 (e ▸ i1)) a ha h2
    · show (C.L :: feet (exX e da v0 (.tr T .none) :: (dictR da [("ball", ball)] :: setAll D.rs is rs'))).Nodup
      rw [e1]
      have lt : ∀ a ∈ C.L :: feet D.rs, a < s.heap.objs.size := fun a ha => (d.notTp ha).lt
      refine List.nodup_cons.mpr ⟨fun q => ?_, List.nodup_append.mpr ⟨hnd, d.rNodup, fun a ha b hb q => ?_⟩⟩
      · rcases List.mem_append.mp q with q | q
        · exact absurd (lt _ (.head _)) (Nat.not_lt.mpr (hnf _ q))
        · exact (List.nodup_cons.mp d.nodup).1 q
      · subst q
        exact absurd (lt a (.tail _ hb)) (Nat.not_lt.mpr (hnf a ha))
    · rcases List.mem_cons.mp ha with rfl | ha
      · exact d.fresh _ (.head _)
      · have ha : a ∈ feet (exX e da v0 (.tr T .none) :: (dictR da [("ball", ball)] :: setAll D.rs is rs')) := ha
        rw [e1] at ha
        rcases List.mem_append.mp ha with ha | ha
        · exact ⟨Nat.le_trans C.big (Nat.le_trans d.size (hnf a ha)), .inr (Nat.le_trans d.size (hnf a ha))⟩
        · exact d.fresh a (.tail _ ha)
inductive RaiseE (prog : Program) (w : World) (Qe : AV → List Reg → Prop) (a : AV) (r : List Reg) : Prop
  | mk (e da t : Addr) (ball : AV) (rs : List Reg) (h : a = .v (.ref e)) (hr : r = rs ++ [excR prog w e (some da) (.ref t) .none, dictR da [("ball", ball)]]) (q : Qe ball rs) : RaiseE prog w Qe a r
noncomputable abbrev RaiseK (prog : Program) (w : World) (Qe : AV → List Reg → Prop) (a : AV) (D : DS) : Prop := RaiseE prog w Qe a D.rs
/-- an exception that was made is raised -/
theorem s_raise {x : Expr} {Q : FL → DS → Prop} {Qe : AV → List Reg → Prop}
    (h : EV prog w C (EX C Qe) (eval x env) D (RaiseK prog w Qe)) :
    SV prog w C (EX C Qe) (exec (.Raise (some x) none pos) env) D Q := fun s d => by
  obtain ⟨nm, q, N, bs, hdct, sn, sub, ab, col, dd, k0, k1, k2, k3, k5, hc, hi, hok, htl⟩ := exc_cls w
  have main : wpAny (model prog w) C.A (raiseStmt env (some (do let v ← eval x env; standAt pos; pure v)) none) (Po C RF Q s) (EX C Qe) s := by
    unfold raiseStmt
    refine wpAny_bind (wpAny_bind (wpAny_mono (h s d) (fun v s₁ p => wpAny_bind (wpAny_standAt (wpAny_pure ?_))) fun _ _ x => x))
    obtain ⟨n1, a, D₁, d₁, r, e, da, t, ball, rs, rfl, hrs, q⟩ := p
    obtain rfl := r.v_
    have hC := d₁.K _ _ hc
    have hg : D₁.rs[rs.length]? = some (excR prog w e (some da) (.ref t) .none) := by rw [hrs]; simp
    have he : s₁.heap.get? e = some { cls := .ref 51, dict := some da, data := .fields #[.ref t, .none, .none, .none, .bool false, .none] } := (d₁.regs _ (mem_of_get hg)).1
    have hE : EX C Qe (.ref e) s₁ := by
      have d2 := (d₁.weak hg (r' := exX e da (.ref t) .un) rfl (fun h x => ⟨x.1, trivial⟩)).x
      have e2 : D₁.rs.set rs.length (exX e da (.ref t) .un) = rs ++ [exX e da (.ref t) .un, dictR da [("ball", ball)]] := by rw [hrs]; simp
      rw [e2] at d2
      exact ⟨D₁.m, e, da, .ref t, .un, ball, rs, rfl, d2.perm (List.perm_append_comm (l₁ := rs) (l₂ := [_, _])), q⟩
    have hcB : (Value.ref 51 :: [Value.ref 31, .type "Exception", .type "BaseException", .type "object"]).contains (.type "BaseException") = true := by decide
    obtain ⟨hp, g, ddd, tk, os⟩ := s₁
    repeat (first | with_reducible refine wpAny_loadPart_at he ?_ | with_reducible refine wpAny_loadPart_at hC ?_ | (with_reducible refine wpAny_isSubtype_exc hC ?_; rw [hcB]) | wp_step)
    exact wpAny_raiseNew_none C.handled hE
  rw [arm_exec_Raise]
  exact wpAny_bind (wpAny_standAt main)
end
end Mine
end
section
open PySem PySem.W
set_option maxRecDepth 100000
namespace Mine
/-- terms, as the program lays them -/
inductive Tm where
  | v (k : Int) | i (n : Int) | a (n : Nat) | s1 (f : Nat) | dot (x y : Tm)
  deriving DecidableEq
namespace Tm
noncomputable def tag : Tm → Str
  | v _ => "v" | i _ => "i" | a _ => "a" | s1 _ => "s" | dot _ _ => "s"
/-- the second part -/
noncomputable def snd : Tm → Int
  | v k => k | i n => n | a n => n | s1 f => f | dot _ _ => 0
noncomputable def py : Tm → PyData
  | v k => .tuple [.str "v", .int k]
  | i n => .tuple [.str "i", .int n]
  | a n => .tuple [.str "a", .int n]
  | s1 f => .tuple [.str "s", .int f, .tuple [.tuple [.str "v", .int 0]]]
  | dot x y => .tuple [.str "s", .int 0, .tuple [x.py, y.py]]
noncomputable def fld : Tm → List PyData
  | v k => [.str "v", .int k]
  | i n => [.str "i", .int n]
  | a n => [.str "a", .int n]
  | s1 f => [.str "s", .int f, .tuple [.tuple [.str "v", .int 0]]]
  | dot x y => [.str "s", .int 0, .tuple [x.py, y.py]]
theorem py_fld (t : Tm) : t.py = .tuple t.fld := by cases t <;> rfl
theorem fld0 (t : Tm) : t.fld[0]? = some (.str t.tag) := by cases t <;> rfl
theorem fld1 (t : Tm) : t.fld[1]? = some (.int t.snd) := by cases t <;> rfl
noncomputable def items : Tm → List Tm
  | dot x y => x :: y.items
  | _ => []
noncomputable def tail : Tm → Tm
  | dot _ y => y.tail
  | t => t
/-- no functor but the list's own is number 0 -/
noncomputable def ok : Tm → Prop
  | s1 f => f ≠ 0
  | dot x y => x.ok ∧ y.ok
  | _ => True
noncomputable def len : Tm → Nat
  | dot _ y => y.len + 1
  | _ => 0
noncomputable def dep : Tm → Nat
  | dot x y => max x.dep y.dep + 2
  | s1 _ => 3
  | _ => 1
theorem isDot {t : Tm} (h : t.ok) : (t.tag == ("s" : Str) && t.snd == 0) = (match t with | dot _ _ => true | _ => false) := by
  cases t with
  | s1 f => simp [tag, snd]; exact h
  | dot x y => rfl
  | v _ => rfl
  | i _ => rfl
  | a _ => rfl
theorem items_length (t : Tm) : t.items.length = t.len := by
  induction t with
  | dot x y _ ih => simp [items, len, ih]
  | _ => rfl
end Tm
/-- data without lists, dicts, truths -/
inductive Pl : PyData → Prop
  | none : Pl .none
  | int (i : Int) : Pl (.int i)
  | str (x : Str) : Pl (.str x)
  | tuple (xs : List PyData) : (∀ x ∈ xs, Pl x) → Pl (.tuple xs)
theorem eqvAll_iff : ∀ (xs : List PyData), (∀ x ∈ xs, Pl x ∧ ∀ y, Pl y → (PyData.eqv x y = true ↔ x = y)) → ∀ ys : List PyData, (∀ y ∈ ys, Pl y) → (PyData.eqvAll xs ys = true ↔ xs = ys)
  | [], _, [], _ => by simp [PyData.eqvAll]
  | [], _, y :: ys, _ => by simp [PyData.eqvAll]
  | x :: xs, _, [], _ => by simp [PyData.eqvAll]
  | x :: xs, h, y :: ys, hy => by
    unfold PyData.eqvAll
    rw [Bool.and_eq_true, (h x (.head _)).2 y (hy y (.head _)), eqvAll_iff xs (fun z hz => h z (.tail _ hz)) ys (fun z hz => hy z (.tail _ hz))]
    simp
theorem eqv_iff {x : PyData} (hx : Pl x) : ∀ {y : PyData}, Pl y → (PyData.eqv x y = true ↔ x = y) := by
  induction hx with
  | none => intro y hy; cases hy <;> simp [PyData.eqv]
  | int i => intro y hy; cases hy <;> simp [PyData.eqv]
  | str s => intro y hy; cases hy <;> simp [PyData.eqv]
  | tuple xs h ih =>
    intro y hy
    cases hy with
    | tuple ys hy =>
      unfold PyData.eqv
      rw [eqvAll_iff xs (fun x hx => ⟨h x hx, fun y hy => ih x hx hy⟩) ys hy]
      simp
    | _ => simp [PyData.eqv]
theorem eqv_self {x : PyData} (hx : Pl x) : PyData.eqv x x = true := (eqv_iff hx hx).mpr rfl
theorem Pl.pair {x y : PyData} (hx : Pl x) (hy : Pl y) : Pl (.tuple [x, y]) := .tuple _ fun z hz => by
  rcases List.mem_cons.mp hz with rfl | hz
  · exact hx
  · rw [List.mem_singleton.mp hz]; exact hy
theorem Pl.triple {x y u : PyData} (hx : Pl x) (hy : Pl y) (hu : Pl u) : Pl (.tuple [x, y, u]) := .tuple _ fun z hz => by
  rcases List.mem_cons.mp hz with rfl | hz
  · exact hx
  · rcases List.mem_cons.mp hz with rfl | hz
    · exact hy
    · rw [List.mem_singleton.mp hz]; exact hu
theorem Pl.one {x : PyData} (hx : Pl x) : Pl (.tuple [x]) := .tuple _ fun z hz => by rw [List.mem_singleton.mp hz]; exact hx
theorem Tm.pl (t : Tm) : Pl t.py := by
  induction t with
  | v k => exact .pair (.str _) (.int _)
  | i k => exact .pair (.str _) (.int _)
  | a k => exact .pair (.str _) (.int _)
  | s1 f => exact .triple (.str _) (.int _) (.one (.pair (.str _) (.int _)))
  | dot x y hx hy => exact .triple (.str _) (.int _) (.pair hx hy)
theorem strOks : PyData.strOk "v" = true ∧ PyData.strOk "i" = true ∧ PyData.strOk "a" = true ∧ PyData.strOk "s" = true := by decide +kernel
theorem Tm.canLay (t : Tm) : t.py.canLay0 = true := by
  obtain ⟨h1, h2, h3, h4⟩ := strOks
  induction t with
  | dot x y hx hy => simp [Tm.py, PyData.canLay0, PyData.canLayAll0, hx, hy, h4]
  | _ => simp [Tm.py, PyData.canLay0, PyData.canLayAll0, h1, h2, h3, h4]
theorem Tm.depth (t : Tm) : t.py.depth ≤ t.dep + 1 := by
  induction t with
  | dot x y hx hy => simp [Tm.py, PyData.depth, PyData.depthAll, Tm.dep]; omega
  | _ => simp [Tm.py, PyData.depth, PyData.depthAll, Tm.dep]
theorem Tm.shaped {t : Tm} (h : t.dep ≤ 60) : SeqAt.shaped t.py = true := by
  unfold SeqAt.shaped
  rw [t.canLay]
  have := t.depth
  simp; omega
noncomputable def Tm.isNil : Tm → Bool
  | .a n => n == 0
  | _ => false
noncomputable abbrev nilD : PyData := .tuple [.str "a", .int 0]
theorem sneq : (Str.ofString "v" == Str.ofString "a") = false ∧ (Str.ofString "i" == Str.ofString "a") = false ∧ (Str.ofString "s" == Str.ofString "a") = false := by decide
theorem Tm.eqvNil (t : Tm) : t.py.eqv nilD = t.isNil := by
  cases t with
  | v k => simp only [Tm.py, PyData.eqv, PyData.eqvAll, Tm.isNil, sneq.1, Bool.false_and]
  | i k => simp only [Tm.py, PyData.eqv, PyData.eqvAll, Tm.isNil, sneq.2.1, Bool.false_and]
  | a n =>
    simp only [Tm.py, PyData.eqv, PyData.eqvAll, Tm.isNil, beq_self_eq_true, Bool.true_and, Bool.and_true]
    by_cases h : n = 0
    · subst h; rfl
    · have : ((n : Int) == 0) = false := by simp; omega
      rw [this]; simp [h]
  | s1 f => rfl
  | dot x y => rfl
theorem Tm.tagShaped (t : Tm) : SeqAt.shaped (.str t.tag) = true := by
  have h : SeqAt.shaped (.str "v") = true ∧ SeqAt.shaped (.str "i") = true ∧ SeqAt.shaped (.str "a") = true ∧ SeqAt.shaped (.str "s") = true := by decide +kernel
  cases t
  · exact h.1
  · exact h.2.1
  · exact h.2.2.1
  · exact h.2.2.2
  · exact h.2.2.2
theorem nil_shaped : SeqAt.shaped nilD = true := by decide +kernel
end Mine
end
section
open PySem PySem.W
set_option maxRecDepth 100000
namespace Mine
section
variable {prog : Program} {w : World}
set_option maxHeartbeats 1000000
theorem globInt {w : World} {C : Cx w} {k : Int} {t : Tok} : Rv C.h₁ (.int k t) (.d (.int k)) := .d (.int _ _)
theorem fn_atomTerm (n : Nat) : Fn prog w (.ref 165) 1 [.d (.int n)] [] (fun av rs' nw => av = .d (Tm.a n).py ∧ rs' = [] ∧ nw = []) := by
  refine fn_body ["number"] [] (by rfl) (by rfl) (by kernel_rfl) ?_ (by rfl) (by decide) (by decide) (by decide) ?_ (by rfl) (by rfl) (by rfl)
  · intro vals h
    obtain ⟨a, rfl⟩ := len1 h
    rfl
  intro C hC ho
  refine ss_cons <| s_ret ?_
  refine e_tuple ?_
  refine l_str ?_
  refine l_cons <| e_loc (i := 0) (by rfl) <| l_nil ⟨[.str "a", .int n], rfl, by simp, ?_⟩
  exact ⟨[], [], [], .refl _, rfl, rfl, rfl, rfl⟩
noncomputable abbrev tmsA (l : List Tm) : List AV := l.map fun t => .d t.py
theorem fn_listItems (t : Tm) (ht : t.ok) (hz : t.len ≤ 100) : Fn prog w (.ref 172) 1 [.d t.py] [] (fun av rs' nw => ∃ a, av = .tup [.v (.ref a), .d t.tail.py] ∧ rs' = [] ∧ nw = [one prog w a (.list (tmsA t.items))]) := by
  refine fn_body ["term"] ["items"] (by rfl) (by rfl) (by kernel_rfl) ?_ (by rfl) (by decide) (by decide) (by decide) ?_ (by rfl) (by rfl) (by rfl)
  · intro vals h
    obtain ⟨a, rfl⟩ := len1 h
    rfl
  intro C hC ho
  refine ss_cons <| s_assign (i := 1) <| e_list <| l_nil ⟨by decide, fun a => ⟨⟨_, by rfl⟩, ?_⟩⟩
  refine ss_cut (fun D₁ => D₁ = ⟨[("term", some (.d t.tail.py)), ("items", some (.v (.ref a)))], [one prog w a (.list (tmsA t.items))]⟩) ?_ ?_
  rotate_left
  · refine w_eq ?_
    refine ss_cons <| s_ret ?_
    refine e_tup ?_
    refine l_cons <| e_loc (i := 1) (by rfl) <| l_cons <| e_loc (i := 0) (by rfl) <| l_nil ⟨by simp, ?_⟩
    exact ⟨[], [one prog w a (.list (tmsA t.items))], [], .refl _, rfl, a, rfl, rfl, rfl⟩
  refine s_while (fun n D' => ∃ pre u, t.items = pre ++ u.items ∧ t.tail = u.tail ∧ u.len = n ∧ u.ok ∧ pre.length + u.len = t.len ∧ D' = ⟨[("term", some (.d u.py)), ("items", some (.v (.ref a)))], [one prog w a (.list (tmsA pre))]⟩) t.len ⟨_, fun _ d => d, [], t, rfl, rfl, rfl, ht, by simp, rfl⟩ ?_
  rintro n _ ⟨pre, u, h1, h2, rfl, hok, hl, rfl⟩
  refine b_bool <| b_and <| b_cmp ?_
  rw [u.py_fld]
  refine e_sub <| e_loc (i := 0) (by rfl) <| e_int <| i_tuple (k := 0) u.fld0 ?_
  refine e_str <| o_eq u.tagShaped (by decide +kernel) ⟨_, rfl, fun hs => ?_, fun hs => ?_⟩
  rotate_left
  · refine ⟨fun e => absurd e Bool.false_ne_true, fun _ => ?_⟩
    have hd : t.items = pre ∧ t.tail = u := by
      cases u with
      | dot x y => simp [Tm.tag, PyData.eqv] at hs
      | _ => exact ⟨by rw [h1]; simp [Tm.items], h2⟩
    exact ⟨_, fun _ d => d, by rw [hd.1, hd.2, ← u.py_fld]⟩
  refine b_and <| b_cmp <| e_sub <| e_loc (i := 0) (by rfl) <| e_int <| i_tuple (k := 1) u.fld1 ?_
  refine e_glob (a := .d (.int 0)) (by rfl) globInt <| o_eq (by rfl) (by rfl) ⟨_, rfl, fun hf => ?_, fun hf => ?_⟩
  rotate_left
  · refine ⟨fun e => absurd e Bool.false_ne_true, fun _ => ?_⟩
    have hd : t.items = pre ∧ t.tail = u := by
      cases u with
      | dot x y => simp [Tm.snd, PyData.eqv] at hf
      | _ => exact ⟨by rw [h1]; simp [Tm.items], h2⟩
    exact ⟨_, fun _ d => d, by rw [hd.1, hd.2, ← u.py_fld]⟩
  refine b_and_nil ⟨fun _ => ?_, fun e => absurd e.symm Bool.false_ne_true⟩
  cases u with
  | dot x y =>
    refine ss_cons <| s_expr <| e_meth <| e_loc (i := 1) (by rfl) ⟨_, gm_append (i := 0) (by rfl), kp_builtin, ?_⟩
    refine l_cons <| e_sub <| e_sub <| e_loc (i := 0) (by rfl) <| e_int <| i_tuple (k := 2) (by rfl) <| e_int <| i_tuple (k := 0) (by rfl) ?_
    have hl' : pre.length + (y.len + 1) = t.len := hl
    refine l_nil <| ol_append (i := 0) (by rfl) (by simp; omega) ?_
    refine ss_cons <| s_assign (i := 0) <| e_sub <| e_sub <| e_loc (i := 0) (by rfl) <| e_int <| i_tuple (k := 2) (by rfl) <| e_int <| i_tuple (k := 1) (by rfl) ⟨⟨_, by rfl⟩, ?_⟩
    exact ss_nil ⟨y.len, by simp [Tm.len], _, fun _ d => d, pre ++ [x], y, by rw [h1]; simp [Tm.items], by rw [h2]; rfl, rfl, hok.2, by simp; omega, by simp [tmsA]⟩
  | s1 f =>
    have : f = 0 := by
      have : ((f : Int) == 0) = true := hf
      simpa using this
    exact absurd this hok
  | v k => exact absurd (show (("v" : Str) == "s") = true from hs) (by decide)
  | i k => exact absurd (show (("i" : Str) == "s") = true from hs) (by decide)
  | a k => exact absurd (show (("a" : Str) == "s") = true from hs) (by decide)
/-- what is raised: the exception and its dict -/
noncomputable def Exc (prog : Program) (w : World) (ball : PyData) (av : AV) (nw : List Reg) : Prop := ∃ e da t, av = .v (.ref e) ∧ nw = [excR prog w e (some da) (.ref t) .none, dictR da [("ball", .d ball)]]
noncomputable abbrev ballOf (formal : PyData) : PyData := .tuple [.str "s", .int 16, .tuple [formal, .tuple [.str "a", .int 25]]]
theorem fn_systemError (formal : PyData) : Fn prog w (.ref 179) 3 [.d formal] [] (fun av rs' nw => Exc prog w (ballOf formal) av nw ∧ rs' = []) := by
  refine fn_body ["formal"] [] (by rfl) (by rfl) (by kernel_rfl) ?_ (by rfl) (by decide) (by decide) (by decide) ?_ (by rfl) (by rfl) (by rfl)
  · intro vals h
    obtain ⟨a, rfl⟩ := len1 h
    rfl
  intro C hC ho
  refine ss_cons <| s_ret ?_
  refine e_fcall 51 ?_
  refine l_cons ?_
  refine e_tuple ?_
  refine l_str ?_
  refine l_cons <| e_glob (a := .d (.int 16)) (by rfl) globInt ?_
  refine l_cons ?_
  refine e_tuple ?_
  refine l_cons <| e_loc (i := 0) (by rfl) ?_
  refine l_cons ?_
  refine e_tuple ?_
  refine l_str ?_
  refine l_cons <| e_glob (a := .d (.int 25)) (by rfl) globInt ?_
  refine l_nil ⟨[.str "a", .int 25], rfl, by simp, ?_⟩
  refine l_nil ⟨[formal, .tuple [.str "a", .int 25]], rfl, by simp, ?_⟩
  refine l_nil ⟨[.str "s", .int 16, .tuple [formal, .tuple [.str "a", .int 25]]], rfl, by simp, ?_⟩
  refine l_nil <| ol_exc fun e da t => ?_
  exact ⟨[], [excR prog w e (some da) (.ref t) .none, dictR da [("ball", .d (ballOf formal))]], [], .refl _, rfl, ⟨e, da, t, rfl, rfl⟩, rfl⟩
end
end Mine
end
section
open PySem PySem.W
set_option maxRecDepth 100000
namespace Mine
noncomputable def pstep (T : List Str) : PyData → PyData × List Str
  | .str x => (.tuple [.str "a", .int (ix (addL T x) x : Nat)], addL T x)
  | d => (d, T)
noncomputable def pfold (T : List Str) : List PyData → List PyData × List Str
  | [] => ([], T)
  | d :: r => ((pstep T d).1 :: (pfold (pstep T d).2 r).1, (pfold (pstep T d).2 r).2)
theorem pfold_snoc (T : List Str) (d : PyData) : ∀ (l : List PyData) (T : List Str), pfold T (l ++ [d]) = ((pfold T l).1 ++ [(pstep (pfold T l).2 d).1], (pstep (pfold T l).2 d).2)
  | [], T => rfl
  | x :: l, T => by
    show ((pstep T x).1 :: (pfold (pstep T x).2 (l ++ [d])).1, (pfold (pstep T x).2 (l ++ [d])).2) = _
    rw [pfold_snoc T d l (pstep T x).2]
    rfl
theorem addL_length {α : Type} [DecidableEq α] (T : List α) (x : α) : (addL T x).length ≤ T.length + 1 := by
  unfold addL; split <;> simp
theorem pfold_length : ∀ (l : List PyData) (T : List Str), (pfold T l).1.length = l.length ∧ (pfold T l).2.length ≤ T.length + l.length
  | [], T => ⟨rfl, Nat.le_refl _⟩
  | x :: l, T => by
    have ih := pfold_length l (pstep T x).2
    have h : (pstep T x).2.length ≤ T.length + 1 := by
      unfold pstep; split
      · exact addL_length ..
      · simp
    simp [pfold]
    omega
noncomputable def formal (T : List Str) (G : List (Int × Int)) (name : Str) (parts : List PyData) : PyData × List Str × List (Int × Int) :=
  (.tuple [.str "s", .int (ix (addL G ((ix (addL (pfold T parts).2 name) name : Nat), (parts.length : Int))) ((ix (addL (pfold T parts).2 name) name : Nat), (parts.length : Int)) : Nat), .tuple (pfold T parts).1],
   addL (pfold T parts).2 name, addL G ((ix (addL (pfold T parts).2 name) name : Nat), (parts.length : Int)))
section
variable {prog : Program} {w : World} {C : Cx w} {E : Value → Shared → Prop} {D : DS} {env : Env} {pos : Pos}
theorem Den.keeps' {s : Shared} (d : Den C D s) {h' : Heap} {tk : Nat} (hk : ∀ a o, s.heap.get? a = some o → h'.get? a = some o) : Nxt s { s with heap := h', toks := tk } ∧ Den C D { s with heap := h', toks := tk } :=
  d.step [] (fun _ h => (nomatch h)) (fun a o _ e => hk a o e) (d.ns.mono (.of_keeps hk) fun o e => hk _ _ e) (fun r hr => r.loc (.of_keeps hk) (fun a _ o e => hk a o e) (d.regs r hr)) d.nodup fun a ha => .inl (.tail _ ha)
theorem ol_isStr {d : PyData} {Q : AV → DS → Prop} (hd : (∃ x, d = .str x) ∨ ∃ xs, d = .tuple xs) (h : Q (.d (.bool (match d with | .str _ => true | _ => false))) D) : OL prog w C E Rv (fun vs => call (.builtin "isinstance") vs) [.d d, .v (.type "str")] D Q := fun s us dn r => by
  cases r with
  | cons r1 r => cases r with
    | cons r2 r => cases r with
      | nil =>
        obtain rfl := r2.v_
        rcases hd with ⟨x, rfl⟩ | ⟨xs, rfl⟩
        · obtain ⟨t, rfl⟩ := r1.str_
          exact IsiPair.str_str (.here dn (.d (.bool _)) h)
        · obtain ⟨a, o, vs, n, rfl, ho, hc, hdd, hr⟩ := r1.tupD
          exact IsiPair.tuple_str ho hc (.intro ⟨.toks _ _, dn.toks _⟩ (.d (.bool _)) h)
theorem ol_tupData {i : Nat} {a : Addr} {xs : List PyData} {Q : AV → DS → Prop} (hi : D.rs[i]? = some (one prog w a (.list (xs.map .d)))) (hz : xs.length ≤ 10000) (h : Q (.d (.tuple xs)) D) : OL prog w C E Rv (fun vs => call (.type "tuple") vs) [.v (.ref a)] D Q := olv1 fun s d => by
      obtain ⟨vs, hl, hr⟩ := d.listAt hi
      have hz' : vs.size = xs.length := by have := hr.length; simpa using this
      refine call_tuple_list hl.isList (fun h' hk => ?_) (by rw [hz', sizeLine_eq]; omega)
      have k2 : ∀ b o, s.heap.get? b = some o → (h'.push { cls := .type "tuple", data := .seq vs }).get? b = some o := fun b o e => push_keeps _ _ _ _ (hk b o e)
      exact .intro (d.keeps' (tk := s.toks) k2) (.d (.tuple (Heap.get?_push_size _ rfl) rfl rfl (RvL.reads (hr.le (.of_keeps k2))))) h
set_option maxHeartbeats 1000000
theorem fn_formalOf (B : BA) (T : List Str) (G : List (Int × Int)) (name : Str) (parts : List PyData) (hT : T.length ≤ 4000) (hG : G.length ≤ 4000) (hp : parts.length ≤ 10) (hd : ∀ d ∈ parts, (∃ x, d = .str x) ∨ ∃ xs, d = .tuple xs) :
    Fn prog w (.ref 186) 3 [.v (.ref B.o), .d (.str name), .d (.tuple parts)] (bookRs prog w B T G) (fun av rs' nw => av = .d (formal T G name parts).1 ∧ rs' = bookRs prog w B (formal T G name parts).2.1 (formal T G name parts).2.2 ∧ nw = []) := by
  refine fn_body ["symbols", "name", "parts"] ["args", "part"] (by rfl) (by rfl) (by kernel_rfl) ?_ (by rfl) (by decide) (by decide) (by decide) ?_ (by rfl) (by rfl) (by rfl)
  · intro vals h
    obtain ⟨a, b, c, rfl⟩ := len3 h
    rfl
  intro C hC ho
  refine ss_cons <| s_assign (i := 3) <| e_list <| l_nil ⟨by decide, fun a => ⟨⟨_, by rfl⟩, ?_⟩⟩
  refine ss_cut (fun D₁ => D₁ = ⟨[("symbols", some (.v (.ref B.o))), ("name", some (.d (.str name))), ("parts", none), ("args", some (.v (.ref a))), ("part", none)], bookRs prog w B (pfold T parts).2 G ++ [one prog w a (.list ((pfold T parts).1.map .d))]⟩) ?_ ?_
  rotate_left
  · refine w_eq ?_
    have hl := pfold_length parts T
    refine ss_cons <| s_ret ?_
    refine e_tuple ?_
    refine l_str ?_
    refine l_cons <| e_meth <| e_loc (i := 0) (by rfl) ⟨_, gm_inst 109 (i := 0) (by rfl), kp_K (by kernel_rfl), ?_⟩
    refine l_cons <| e_loc (i := 1) (by rfl) <| l_cons <| e_bcall (l_cons <| e_loc (i := 3) (by rfl) <| l_nil <| ol_len (i := 5) (by rfl) (by simp; omega) ?_) kp_builtin
    rw [show (((pfold T parts).1.map AV.d).length : Int) = (parts.length : Int) from by simp [hl.1]]
    refine l_nil <| ol_f (fn_func B (pfold T parts).2 G name parts.length (by omega) (by omega)) [0, 1, 2, 3, 4] ?_
    refine w_x3 ?_
    refine l_cons <| e_bcall (l_cons <| e_loc (i := 3) (by rfl) <| l_nil <| ol_tupData (i := 5) (by rfl) (by omega) ?_) kp_type
    refine l_nil ⟨[.str "s", .int (ix (addL G ((ix (addL (pfold T parts).2 name) name : Nat), (parts.length : Int))) ((ix (addL (pfold T parts).2 name) name : Nat), (parts.length : Int)) : Nat), .tuple (pfold T parts).1], rfl, by simp, ?_⟩
    exact ⟨bookRs prog w B (formal T G name parts).2.1 (formal T G name parts).2.2, [], [_], .refl _, rfl, rfl, rfl, rfl⟩
  refine s_for <| e_loc (i := 2) (by rfl) ?_
  refine oi_tuple fun I t => ⟨srcTup prog C I t (parts.map .d), rfl, fun k D' => D' = ⟨[("symbols", some (.v (.ref B.o))), ("name", some (.d (.str name))), ("parts", none), ("args", some (.v (.ref a))), ("part", none)], bookRs prog w B (pfold T (parts.take k)).2 G ++ [one prog w a (.list ((pfold T (parts.take k)).1.map .d))]⟩,
    fun _ _ _ _ h => (nomatch h), ⟨_, to_of, rfl⟩, ?_, ?_⟩
  rotate_left
  · refine w_eq ?_
    exact ⟨_, fun _ d => d, by simp [srcTup]⟩
  rintro k x _ hx rfl
  obtain ⟨d, hx', rfl⟩ : ∃ d, parts[k]? = some d ∧ x = .d d := by
    simp only [srcTup, List.getElem?_map, Option.map_eq_some_iff] at hx
    obtain ⟨d, h1, rfl⟩ := hx
    exact ⟨d, h1, rfl⟩
  have tk : parts.take (k + 1) = parts.take k ++ [d] := by rw [List.take_add_one, hx']; rfl
  have hl := pfold_length (parts.take k) T
  have hk : (parts.take k).length ≤ 10 := by simp; omega
  have sn := pfold_snoc T d (parts.take k) T
  refine as_name (i := 4) (by rfl) ?_
  refine ss_cons <| s_expr <| e_meth <| e_loc (i := 3) (by rfl) ⟨_, gm_append (i := 5) (by rfl), kp_builtin, ?_⟩
  refine l_cons <| e_ifexp <| b_val <| e_bcall (l_cons <| e_loc (i := 4) (by rfl) <| l_cons <| e_builtin (by kernel_rfl) (by rfl) (by decide) <| l_nil <| ol_isStr (hd d (List.mem_of_getElem? hx')) <| t_bool ?_) kp_builtin
  rcases hd d (List.mem_of_getElem? hx') with ⟨y, rfl⟩ | ⟨xs, rfl⟩
  · refine ⟨fun _ => ?_, fun e => absurd e.symm Bool.false_ne_true⟩
    refine e_tuple ?_
    refine l_str ?_
    refine l_cons <| e_meth <| e_loc (i := 0) (by rfl) ⟨_, gm_inst 88 (i := 0) (by rfl), kp_K (by kernel_rfl), l_cons <| e_loc (i := 4) (by rfl) <| l_nil <| ol_f (fn_atom B (pfold T (parts.take k)).2 G y (by omega)) [0, 1, 2, 3, 4] ?_⟩
    refine w_x3 ?_
    refine l_nil ⟨[.str "a", .int (ix (addL (pfold T (parts.take k)).2 y) y : Nat)], rfl, by simp, ?_⟩
    refine l_nil <| ol_append (i := 5) (by rfl) (by simp; omega) ?_
    refine ss_nil ⟨⟨_, bookRs prog w B (pfold T (parts.take (k + 1))).2 G ++ [one prog w a (.list ((pfold T (parts.take (k + 1))).1.map .d))]⟩, ?_, rfl⟩
    rw [tk, sn, List.map_append]
    exact to_of
  · refine ⟨fun e => absurd e Bool.false_ne_true, fun _ => ?_⟩
    refine e_loc (i := 4) (by rfl) ?_
    refine l_nil <| ol_append (i := 5) (by rfl) (by simp; omega) ?_
    refine ss_nil ⟨⟨_, bookRs prog w B (pfold T (parts.take (k + 1))).2 G ++ [one prog w a (.list ((pfold T (parts.take (k + 1))).1.map .d))]⟩, ?_, rfl⟩
    rw [tk, sn, List.map_append]
    exact to_of
end
end Mine
end
section
open PySem PySem.W
set_option maxRecDepth 100000
namespace Mine
inductive Er where
  | inst
  | ty (kind : Str) (c : PyData)
  | dom (kind : Str) (c : PyData)
  | perm (action kind : Str) (c : PyData)
noncomputable def Er.out (T : List Str) (G : List (Int × Int)) : Er → PyData × List Str × List (Int × Int)
  | .inst => (.tuple [.str "a", .int (ix (addL T "instantiation_error") "instantiation_error" : Nat)], addL T "instantiation_error", G)
  | .ty k c => formal T G "type_error" [.str k, c]
  | .dom k c => formal T G "domain_error" [.str k, c]
  | .perm a k c => formal T G "permission_error" [.str a, .str k, c]
noncomputable def ErrQ (prog : Program) (w : World) (B : BA) (e : Er) (T : List Str) (G : List (Int × Int)) (av : AV) (rs' nw : List Reg) : Prop :=
  Exc prog w (ballOf (e.out T G).1) av nw ∧ rs' = bookRs prog w B (e.out T G).2.1 (e.out T G).2.2
section
variable {prog : Program} {w : World}
set_option maxHeartbeats 1000000
theorem fn_instErr (B : BA) (T : List Str) (G : List (Int × Int)) (hT : T.length ≤ 4000) : Fn prog w (.ref 193) 4 [.v (.ref B.o)] (bookRs prog w B T G) (ErrQ prog w B .inst T G) := by
  refine fn_body ["symbols"] [] (by rfl) (by rfl) (by kernel_rfl) ?_ (by rfl) (by decide) (by decide) (by decide) ?_ (by rfl) (by rfl) (by rfl)
  · intro vals h
    obtain ⟨a, rfl⟩ := len1 h
    rfl
  intro C hC ho
  refine ss_cons <| s_ret ?_
  refine e_fcall 179 ?_
  refine l_cons ?_
  refine e_tuple ?_
  refine l_str ?_
  refine l_cons <| e_meth <| e_loc (i := 0) (by rfl) ⟨_, gm_inst 88 (i := 0) (by rfl), kp_K (by kernel_rfl), l_cons <| e_str <| l_nil <| ol_f (fn_atom B T G "instantiation_error" (by omega)) [0, 1, 2, 3, 4] ?_⟩
  refine w_x3 ?_
  refine l_nil ⟨[.str "a", .int (ix (addL T "instantiation_error") "instantiation_error" : Nat)], rfl, by simp, ?_⟩
  refine l_nil <| ol_f (fn_systemError (Er.out T G .inst).1) [] ?_
  rintro _ _ nw ⟨hx, rfl⟩
  exact ⟨bookRs prog w B (Er.out T G .inst).2.1 (Er.out T G .inst).2.2, nw, [], List.Perm.of_eq (List.append_nil _).symm, rfl, hx, rfl⟩
theorem tupOf (t : Tm) : (∃ x, t.py = .str x) ∨ ∃ xs, t.py = .tuple xs := .inr ⟨_, t.py_fld⟩
theorem fn_typeErr (B : BA) (T : List Str) (G : List (Int × Int)) (k : Str) (c : Tm) (hT : T.length ≤ 4000) (hG : G.length ≤ 4000) : Fn prog w (.ref 200) 4 [.v (.ref B.o), .d (.str k), .d c.py] (bookRs prog w B T G) (ErrQ prog w B (.ty k c.py) T G) := by
  refine fn_body ["symbols", "kind", "culprit"] [] (by rfl) (by rfl) (by kernel_rfl) ?_ (by rfl) (by decide) (by decide) (by decide) ?_ (by rfl) (by rfl) (by rfl)
  · intro vals h
    obtain ⟨a, b, c, rfl⟩ := len3 h
    rfl
  intro C hC ho
  refine ss_cons <| s_ret ?_
  refine e_fcall 179 ?_
  refine l_cons ?_
  refine e_fcall 186 ?_
  refine l_cons <| e_loc (i := 0) (by rfl) <| l_cons <| e_str <| l_cons ?_
  refine e_tuple ?_
  refine l_cons <| e_loc (i := 1) (by rfl) <| l_cons <| e_loc (i := 2) (by rfl) <| l_nil ⟨[.str k, c.py], rfl, by simp, ?_⟩
  refine l_nil <| ol_f (fn_formalOf B T G "type_error" [.str k, c.py] hT hG (by simp) (by
    intro d hd
    rcases List.mem_cons.mp hd with rfl | hd
    · exact .inl ⟨_, rfl⟩
    · rw [List.mem_singleton.mp hd]; exact tupOf c)) [0, 1, 2, 3, 4] ?_
  refine w_x3 ?_
  refine l_nil <| ol_f (fn_systemError (Er.out T G (.ty k c.py)).1) [] ?_
  rintro _ _ nw ⟨hx, rfl⟩
  exact ⟨bookRs prog w B (Er.out T G (.ty k c.py)).2.1 (Er.out T G (.ty k c.py)).2.2, nw, [], List.Perm.of_eq (List.append_nil _).symm, rfl, hx, rfl⟩
theorem fn_domErr (B : BA) (T : List Str) (G : List (Int × Int)) (k : Str) (c : Tm) (hT : T.length ≤ 4000) (hG : G.length ≤ 4000) : Fn prog w (.ref 207) 4 [.v (.ref B.o), .d (.str k), .d c.py] (bookRs prog w B T G) (ErrQ prog w B (.dom k c.py) T G) := by
  refine fn_body ["symbols", "kind", "culprit"] [] (by rfl) (by rfl) (by kernel_rfl) ?_ (by rfl) (by decide) (by decide) (by decide) ?_ (by rfl) (by rfl) (by rfl)
  · intro vals h
    obtain ⟨a, b, c, rfl⟩ := len3 h
    rfl
  intro C hC ho
  refine ss_cons <| s_ret ?_
  refine e_fcall 179 ?_
  refine l_cons ?_
  refine e_fcall 186 ?_
  refine l_cons <| e_loc (i := 0) (by rfl) <| l_cons <| e_str <| l_cons ?_
  refine e_tuple ?_
  refine l_cons <| e_loc (i := 1) (by rfl) <| l_cons <| e_loc (i := 2) (by rfl) <| l_nil ⟨[.str k, c.py], rfl, by simp, ?_⟩
  refine l_nil <| ol_f (fn_formalOf B T G "domain_error" [.str k, c.py] hT hG (by simp) (by
    intro d hd
    rcases List.mem_cons.mp hd with rfl | hd
    · exact .inl ⟨_, rfl⟩
    · rw [List.mem_singleton.mp hd]; exact tupOf c)) [0, 1, 2, 3, 4] ?_
  refine w_x3 ?_
  refine l_nil <| ol_f (fn_systemError (Er.out T G (.dom k c.py)).1) [] ?_
  rintro _ _ nw ⟨hx, rfl⟩
  exact ⟨bookRs prog w B (Er.out T G (.dom k c.py)).2.1 (Er.out T G (.dom k c.py)).2.2, nw, [], List.Perm.of_eq (List.append_nil _).symm, rfl, hx, rfl⟩
theorem fn_permErr (B : BA) (T : List Str) (G : List (Int × Int)) (a k : Str) (c : Tm) (hT : T.length ≤ 4000) (hG : G.length ≤ 4000) : Fn prog w (.ref 214) 4 [.v (.ref B.o), .d (.str a), .d (.str k), .d c.py] (bookRs prog w B T G) (ErrQ prog w B (.perm a k c.py) T G) := by
  refine fn_body ["symbols", "action", "kind", "culprit"] [] (by rfl) (by rfl) (by kernel_rfl) ?_ (by rfl) (by decide) (by decide) (by decide) ?_ (by rfl) (by rfl) (by rfl)
  · intro vals h
    obtain ⟨a, b, c, d, rfl⟩ := len4 h
    rfl
  intro C hC ho
  refine ss_cons <| s_ret ?_
  refine e_fcall 179 ?_
  refine l_cons ?_
  refine e_fcall 186 ?_
  refine l_cons <| e_loc (i := 0) (by rfl) <| l_cons <| e_str <| l_cons ?_
  refine e_tuple ?_
  refine l_cons <| e_loc (i := 1) (by rfl) <| l_cons <| e_loc (i := 2) (by rfl) <| l_cons <| e_loc (i := 3) (by rfl) <| l_nil ⟨[.str a, .str k, c.py], rfl, by simp, ?_⟩
  refine l_nil <| ol_f (fn_formalOf B T G "permission_error" [.str a, .str k, c.py] hT hG (by simp) (by
    intro d hd
    rcases List.mem_cons.mp hd with rfl | hd
    · exact .inl ⟨_, rfl⟩
    · rcases List.mem_cons.mp hd with rfl | hd
      · exact .inl ⟨_, rfl⟩
      · rw [List.mem_singleton.mp hd]; exact tupOf c)) [0, 1, 2, 3, 4] ?_
  refine w_x3 ?_
  refine l_nil <| ol_f (fn_systemError (Er.out T G (.perm a k c.py)).1) [] ?_
  rintro _ _ nw ⟨hx, rfl⟩
  exact ⟨bookRs prog w B (Er.out T G (.perm a k c.py)).2.1 (Er.out T G (.perm a k c.py)).2.2, nw, [], List.Perm.of_eq (List.append_nil _).symm, rfl, hx, rfl⟩
end
end Mine
end
section
open PySem PySem.W
set_option maxRecDepth 100000
namespace Mine
noncomputable abbrev Tb := List (Int × (Int × Str))
noncomputable abbrev entA (e : Int × Str) : AV := .d (.tuple [.int e.1, .str e.2])
noncomputable def tbA (t : Tb) : List (Int × AV) := t.map fun kv => (kv.1, entA kv.2)
section
variable {K V : Type} [DecidableEq K]
theorem at_map {U : Type} (f : V → U) (t : List (K × V)) (k : K) : at_ (t.map fun kv => (kv.1, f kv.2)) k = (at_ t k).map f := by
  unfold at_
  induction t with
  | nil => rfl
  | cons x t ih =>
    rw [List.map_cons, List.find?_cons, List.find?_cons]
    by_cases e : x.1 = k
    · simp [e]
    · simp only [e, decide_false]; exact ih
theorem put_map {U : Type} (f : V → U) (t : List (K × V)) (k : K) (v : V) : put_ (t.map fun kv => (kv.1, f kv.2)) k (f v) = (put_ t k v).map fun kv => (kv.1, f kv.2) := by
  unfold put_
  rw [at_map]
  cases q : at_ t k with
  | none => simp
  | some b =>
    simp only [Option.map_some, Option.isSome_some, if_true, List.map_map]
    apply List.map_congr_left
    intro x _
    simp only [Function.comp]
    split <;> rfl
theorem del_map {U : Type} (f : V → U) (t : List (K × V)) (k : K) : del_ (t.map fun kv => (kv.1, f kv.2)) k = (del_ t k).map fun kv => (kv.1, f kv.2) := by
  unfold del_
  rw [List.filter_map]
  rfl
theorem del_none {t : List (K × V)} {k : K} (h : at_ t k = none) : del_ t k = t := by
  unfold del_
  rw [List.filter_eq_self]
  intro x hx
  unfold at_ at h
  rw [Option.map_eq_none_iff, List.find?_eq_none] at h
  have := h x hx
  simpa using this
theorem put_length (t : List (K × V)) (k : K) (v : V) : (put_ t k v).length ≤ t.length + 1 := by
  unfold put_; split <;> simp
theorem del_length (t : List (K × V)) (k : K) : (del_ t k).length ≤ t.length := List.length_filter_le _ _
end
set_option genInjectivity false in
set_option genSizeOf false in
structure Ops where
  (P I Q : Tb)
noncomputable def fixD (t : Str) : PyData :=
  if (["fx", "fy"] : List Str).any (· == t) then .str "prefix" else if (["xfx", "xfy", "yfx"] : List Str).any (· == t) then .str "infix" else if (["xf", "yf"] : List Str).any (· == t) then .str "postfix" else .none
noncomputable def upT (t : Tb) (pr : Int) (ty : Str) (a : Int) : Tb := if 0 < pr then put_ t a (pr, ty) else del_ t a
/-- which table -/
noncomputable def isKind (t x : Str) : Bool := (fixD t).eqv (.str x)
noncomputable def selT (ty : Str) : Nat := if isKind ty "prefix" then 0 else if isKind ty "infix" then 1 else 2
noncomputable def Ops.get (O : Ops) : Nat → Tb
  | 0 => O.P | 1 => O.I | _ => O.Q
noncomputable def Ops.set (O : Ops) (t : Tb) : Nat → Ops
  | 0 => { O with P := t } | 1 => { O with I := t } | _ => { O with Q := t }
noncomputable def addOp (O : Ops) (pr : Int) (ty : Str) (a : Int) : Ops := O.set (upT (O.get (selT ty)) pr ty a) (selT ty)
set_option genInjectivity false in
set_option genSizeOf false in
structure OA where
  (o d p i q : Addr)
noncomputable abbrev opsFs (B : BA) (X : OA) : Fs := [("symbols", .v (.ref B.o)), ("prefixes", .v (.ref X.p)), ("infixes", .v (.ref X.i)), ("postfixes", .v (.ref X.q))]
noncomputable abbrev opsRs (prog : Program) (w : World) (B : BA) (X : OA) (O : Ops) : List Reg := [instR X.o X.d 347 (opsFs B X), one prog w X.p (.dI (tbA O.P)), one prog w X.i (.dI (tbA O.I)), one prog w X.q (.dI (tbA O.Q))]
noncomputable def OA.tab (X : OA) : Nat → Addr
  | 0 => X.p | 1 => X.i | _ => X.q
theorem fixD_cases (t : Str) : fixD t = .str "prefix" ∨ fixD t = .str "infix" ∨ fixD t = .str "postfix" ∨ fixD t = .none := by
  unfold fixD; split <;> try split <;> try split
  all_goals simp
section
variable {prog : Program} {w : World}
theorem globTup {C : Cx w} {a : Addr} {o : Obj} {vs : Array Value} {n : Nat} {xs : List PyData} (ho : (KK w).lookup a = some o) (hc : o.cls = .type "tuple") (hd : o.data = .seq vs n) (hr : ∀ h, ReadsAll h vs.toList xs []) : Rv C.h₁ (.ref a) (.d (.tuple xs)) :=
  .d (.tuple (C.bs.K _ _ ho) hc hd (hr _))
set_option maxHeartbeats 1000000
theorem fn_fixity (t : Str) (ht : SeqAt.shaped (.str t) = true) : Fn prog w (.ref 231) 1 [.d (.str t)] [] (fun av rs' nw => av = .d (fixD t) ∧ rs' = [] ∧ nw = []) := by
  refine fn_body ["type_text"] [] (by rfl) (by rfl) (by kernel_rfl) ?_ (by rfl) (by decide) (by decide) (by decide) ?_ (by rfl) (by rfl) (by rfl)
  · intro vals h
    obtain ⟨a, rfl⟩ := len1 h
    rfl
  intro C hC ho
  refine ss_cons <| s_if <| b_cmp <| e_loc (i := 0) (by rfl) ?_
  refine e_glob (v := .ref 215) (a := .d (.tuple ([("fx" : Str), "fy"].map .str))) (by rfl) (globTup rfl rfl rfl fun h => ?_) ?_
  · exact .cons (as := []) (bs := []) (.str _ _) (.cons (as := []) (bs := []) (.str _ _) .nil)
  refine o_inTuple ⟨_, rfl, fun h1 => ?_, fun h1 => ?_⟩
  · exact ss_cons <| s_ret <| e_str ⟨[], [], [], .refl _, rfl, by simp only [flav, fixD, h1, if_true], rfl, rfl⟩
  refine ss_nil <| ss_cons <| s_if <| b_cmp <| e_loc (i := 0) (by rfl) ?_
  refine e_glob (v := .ref 216) (a := .d (.tuple ([("xfx" : Str), "xfy", "yfx"].map .str))) (by rfl) (globTup rfl rfl rfl fun h => ?_) ?_
  · exact .cons (as := []) (bs := []) (.str _ _) (.cons (as := []) (bs := []) (.str _ _) (.cons (as := []) (bs := []) (.str _ _) .nil))
  refine o_inTuple ⟨_, rfl, fun h2 => ?_, fun h2 => ?_⟩
  · exact ss_cons <| s_ret <| e_str ⟨[], [], [], .refl _, rfl, by simp only [flav, fixD, h1, h2, if_true]; rfl, rfl, rfl⟩
  refine ss_nil <| ss_cons <| s_if <| b_cmp <| e_loc (i := 0) (by rfl) ?_
  refine e_glob (v := .ref 217) (a := .d (.tuple ([("xf" : Str), "yf"].map .str))) (by rfl) (globTup rfl rfl rfl fun h => ?_) ?_
  · exact .cons (as := []) (bs := []) (.str _ _) (.cons (as := []) (bs := []) (.str _ _) .nil)
  refine o_inTuple ⟨_, rfl, fun h3 => ?_, fun h3 => ?_⟩
  · exact ss_cons <| s_ret <| e_str ⟨[], [], [], .refl _, rfl, by simp only [flav, fixD, h1, h2, h3, if_true]; rfl, rfl, rfl⟩
  exact ss_nil <| ss_cons <| s_ret <| e_none ⟨[], [], [], .refl _, rfl, by simp only [flav, fixD, h1, h2, h3]; rfl, rfl, rfl⟩
theorem fix_shaped (t : Str) : SeqAt.shaped (fixD t) = true := by
  rcases fixD_cases t with h | h | h | h <;> rw [h] <;> decide +kernel
theorem fn_tableOf (B : BA) (X : OA) (O : Ops) (t : Str) (ht : SeqAt.shaped (.str t) = true) : Fn prog w (.ref 281) 2 [.v (.ref X.o), .d (.str t)] (opsRs prog w B X O) (fun av rs' nw => av = .v (.ref (X.tab (selT t))) ∧ rs' = opsRs prog w B X O ∧ nw = []) := by
  refine fn_body ["self", "type_text"] ["kind"] (by rfl) (by rfl) (by kernel_rfl) ?_ (by rfl) (by decide) (by decide) (by decide) ?_ (by rfl) (by rfl) (by rfl)
  · intro vals h
    obtain ⟨a, b, rfl⟩ := len2 h
    rfl
  intro C hC ho
  refine ss_cons <| s_assign (i := 2) <| e_fcall 231 <| l_cons <| e_loc (i := 1) (by rfl) <| l_nil <| ol_f (fn_fixity t ht) [] ?_
  refine w_x3 ?_
  refine ⟨⟨_, by rfl⟩, ?_⟩
  refine ss_cons <| s_if <| b_cmp <| e_loc (i := 2) (by rfl) <| e_str <| o_eq (fix_shaped t) (by decide +kernel) ⟨isKind t "prefix", rfl, fun h1 => ?_, fun h1 => ?_⟩
  · refine ss_cons <| s_ret <| e_attr <| e_loc (i := 0) (by rfl) <| o_attr (i := 0) (by rfl) (by rfl) ?_
    exact ⟨opsRs prog w B X O, [], [], .refl _, rfl, by simp only [flav, selT, h1, if_true]; rfl, rfl, rfl⟩
  refine ss_nil <| ss_cons <| s_if <| b_cmp <| e_loc (i := 2) (by rfl) <| e_str <| o_eq (fix_shaped t) (by decide +kernel) ⟨isKind t "infix", rfl, fun h2 => ?_, fun h2 => ?_⟩
  · refine ss_cons <| s_ret <| e_attr <| e_loc (i := 0) (by rfl) <| o_attr (i := 0) (by rfl) (by rfl) ?_
    exact ⟨opsRs prog w B X O, [], [], .refl _, rfl, by simp only [flav, selT, h1, h2, if_true]; rfl, rfl, rfl⟩
  refine ss_nil <| ss_cons <| s_ret <| e_attr <| e_loc (i := 0) (by rfl) <| o_attr (i := 0) (by rfl) (by rfl) ?_
  exact ⟨opsRs prog w B X O, [], [], .refl _, rfl, by simp only [flav, selT, h1, h2]; rfl, rfl, rfl⟩
end
end Mine
end
section
open PySem PySem.W
set_option maxRecDepth 100000
namespace Mine
theorem put_tb (t : Tb) (a : Int) (e : Int × Str) : put_ (tbA t) a (entA e) = tbA (put_ t a e) := put_map entA t a e
theorem del_tb (t : Tb) (a : Int) : del_ (tbA t) a = tbA (del_ t a) := del_map entA t a
theorem at_tb (t : Tb) (a : Int) : at_ (tbA t) a = (at_ t a).map entA := at_map entA t a
theorem selT_cases (t : Str) : selT t = 0 ∨ selT t = 1 ∨ selT t = 2 := by
  unfold selT; split
  · exact .inl rfl
  · split
    · exact .inr (.inl rfl)
    · exact .inr (.inr rfl)
structure Ops.Small (O : Ops) (n : Nat) : Prop where
  P : O.P.length ≤ n
  I : O.I.length ≤ n
  Q : O.Q.length ≤ n
theorem upT_length (t : Tb) (pr : Int) (ty : Str) (a : Int) : (upT t pr ty a).length ≤ t.length + 1 := by
  unfold upT; split
  · exact put_length ..
  · exact Nat.le_succ_of_le (del_length ..)
theorem addOp_small {O : Ops} {n : Nat} (h : O.Small n) (pr : Int) (ty : Str) (a : Int) : (addOp O pr ty a).Small (n + 1) := by
  obtain ⟨h1, h2, h3⟩ := h
  unfold addOp
  rcases selT_cases ty with e | e | e <;> rw [e]
  · exact ⟨Nat.le_trans (upT_length ..) (by show O.P.length + 1 ≤ _; omega), by show O.I.length ≤ _; omega, by show O.Q.length ≤ _; omega⟩
  · exact ⟨by show O.P.length ≤ _; omega, Nat.le_trans (upT_length ..) (by show O.I.length + 1 ≤ _; omega), by show O.Q.length ≤ _; omega⟩
  · exact ⟨by show O.P.length ≤ _; omega, by show O.I.length ≤ _; omega, Nat.le_trans (upT_length ..) (by show O.Q.length + 1 ≤ _; omega)⟩
section
variable {prog : Program} {w : World}
set_option maxHeartbeats 2000000
theorem fn_add (B : BA) (X : OA) (O : Ops) (pr : Int) (ty : Str) (a : Int) (ht : SeqAt.shaped (.str ty) = true) (hs : O.Small 5000) :
    Fn prog w (.ref 288) 3 [.v (.ref X.o), .d (.int pr), .d (.str ty), .d (.int a)] (opsRs prog w B X O) (fun av rs' nw => av = .d .none ∧ rs' = opsRs prog w B X (addOp O pr ty a) ∧ nw = []) := by
  refine fn_body ["self", "priority", "type_text", "a"] ["table"] (by rfl) (by rfl) (by kernel_rfl) ?_ (by rfl) (by decide) (by decide) (by decide) ?_ (by rfl) (by rfl) (by rfl)
  · intro vals h
    obtain ⟨a, b, c, d, rfl⟩ := len4 h
    rfl
  intro C hC ho
  refine ss_cons <| s_assign (i := 4) <| e_meth <| e_loc (i := 0) (by rfl) ⟨_, gm_inst 281 (i := 0) (by rfl), kp_K (by kernel_rfl), l_cons <| e_loc (i := 2) (by rfl) <| l_nil <| ol_f (fn_tableOf B X O ty ht) [0, 1, 2, 3] ?_⟩
  refine w_x3 ?_
  refine ⟨⟨_, by rfl⟩, ?_⟩
  have fin : ∀ O' : Ops, addOp O pr ty a = O' → FnEnd (opsRs prog w B X O) (fun av rs' nw => av = .d .none ∧ rs' = opsRs prog w B X (addOp O pr ty a) ∧ nw = []) .next ⟨[], opsRs prog w B X O'⟩ := fun O' e =>
    ⟨opsRs prog w B X O', [], [], .refl _, rfl, rfl, by rw [e], rfl⟩
  have hz1 : (tbA O.P).length ≤ 10000 := by have := hs.P; simp [tbA]; omega
  have hz2 : (tbA O.I).length ≤ 10000 := by have := hs.I; simp [tbA]; omega
  have hz3 : (tbA O.Q).length ≤ 10000 := by have := hs.Q; simp [tbA]; omega
  rcases selT_cases ty with e | e | e <;> rw [e]
  · refine ss_cons <| s_if <| b_cmp <| e_loc (i := 1) (by rfl) <| e_int <| o_gt ⟨_, rfl, fun hg => ?_, fun hg => ?_⟩
    · refine ss_cons <| s_setitem ?_
      refine e_tuple ?_
      refine l_cons <| e_loc (i := 1) (by rfl) <| l_cons <| e_loc (i := 2) (by rfl) <| l_nil ⟨[.int pr, .str ty], rfl, by simp, ?_⟩
      refine e_loc (i := 4) (by rfl) <| e_loc (i := 3) (by rfl) <| u_setD (plI prog w) (k := a) (i := 1) (by rfl) hz1 ?_
      refine ss_nil <| ss_nil ?_
      rw [show put_ (tbA O.P) a (.d (.tuple [.int pr, .str ty])) = tbA (put_ O.P a (pr, ty)) from put_tb O.P a (pr, ty)]
      exact fin { O with P := put_ O.P a (pr, ty) } (by unfold addOp; rw [e]; simp only [upT, of_decide_eq_true hg, if_true]; rfl)
    · refine ss_cons <| s_if <| b_cmp <| e_loc (i := 3) (by rfl) <| e_loc (i := 4) (by rfl) <| o_inD (plI prog w) (k := a) (i := 1) (by rfl) ⟨_, rfl, fun hm => ?_, fun hm => ?_⟩
      · refine ss_cons <| s_delItem <| e_loc (i := 4) (by rfl) <| e_loc (i := 3) (by rfl) <| o_del (plI prog w) (k := a) (i := 1) (by rfl) hz1 hm ?_
        refine ss_nil <| ss_nil <| ss_nil ?_
        rw [del_tb]
        exact fin { O with P := del_ O.P a } (by unfold addOp; rw [e]; simp only [upT, of_decide_eq_false hg, if_false]; rfl)
      · refine ss_nil <| ss_nil <| ss_nil ?_
        refine fin O ?_
        have hn : at_ O.P a = none := by rw [at_tb] at hm; simpa using hm
        unfold addOp; rw [e]; simp only [upT, of_decide_eq_false hg, if_false]
        show ({ O with P := del_ O.P a } : Ops) = O
        rw [del_none hn]
  · refine ss_cons <| s_if <| b_cmp <| e_loc (i := 1) (by rfl) <| e_int <| o_gt ⟨_, rfl, fun hg => ?_, fun hg => ?_⟩
    · refine ss_cons <| s_setitem ?_
      refine e_tuple ?_
      refine l_cons <| e_loc (i := 1) (by rfl) <| l_cons <| e_loc (i := 2) (by rfl) <| l_nil ⟨[.int pr, .str ty], rfl, by simp, ?_⟩
      refine e_loc (i := 4) (by rfl) <| e_loc (i := 3) (by rfl) <| u_setD (plI prog w) (k := a) (i := 2) (by rfl) hz2 ?_
      refine ss_nil <| ss_nil ?_
      rw [show put_ (tbA O.I) a (.d (.tuple [.int pr, .str ty])) = tbA (put_ O.I a (pr, ty)) from put_tb O.I a (pr, ty)]
      exact fin { O with I := put_ O.I a (pr, ty) } (by unfold addOp; rw [e]; simp only [upT, of_decide_eq_true hg, if_true]; rfl)
    · refine ss_cons <| s_if <| b_cmp <| e_loc (i := 3) (by rfl) <| e_loc (i := 4) (by rfl) <| o_inD (plI prog w) (k := a) (i := 2) (by rfl) ⟨_, rfl, fun hm => ?_, fun hm => ?_⟩
      · refine ss_cons <| s_delItem <| e_loc (i := 4) (by rfl) <| e_loc (i := 3) (by rfl) <| o_del (plI prog w) (k := a) (i := 2) (by rfl) hz2 hm ?_
        refine ss_nil <| ss_nil <| ss_nil ?_
        rw [del_tb]
        exact fin { O with I := del_ O.I a } (by unfold addOp; rw [e]; simp only [upT, of_decide_eq_false hg, if_false]; rfl)
      · refine ss_nil <| ss_nil <| ss_nil ?_
        refine fin O ?_
        have hn : at_ O.I a = none := by rw [at_tb] at hm; simpa using hm
        unfold addOp; rw [e]; simp only [upT, of_decide_eq_false hg, if_false]
        show ({ O with I := del_ O.I a } : Ops) = O
        rw [del_none hn]
  · refine ss_cons <| s_if <| b_cmp <| e_loc (i := 1) (by rfl) <| e_int <| o_gt ⟨_, rfl, fun hg => ?_, fun hg => ?_⟩
    · refine ss_cons <| s_setitem ?_
      refine e_tuple ?_
      refine l_cons <| e_loc (i := 1) (by rfl) <| l_cons <| e_loc (i := 2) (by rfl) <| l_nil ⟨[.int pr, .str ty], rfl, by simp, ?_⟩
      refine e_loc (i := 4) (by rfl) <| e_loc (i := 3) (by rfl) <| u_setD (plI prog w) (k := a) (i := 3) (by rfl) hz3 ?_
      refine ss_nil <| ss_nil ?_
      rw [show put_ (tbA O.Q) a (.d (.tuple [.int pr, .str ty])) = tbA (put_ O.Q a (pr, ty)) from put_tb O.Q a (pr, ty)]
      exact fin { O with Q := put_ O.Q a (pr, ty) } (by unfold addOp; rw [e]; simp only [upT, of_decide_eq_true hg, if_true]; rfl)
    · refine ss_cons <| s_if <| b_cmp <| e_loc (i := 3) (by rfl) <| e_loc (i := 4) (by rfl) <| o_inD (plI prog w) (k := a) (i := 3) (by rfl) ⟨_, rfl, fun hm => ?_, fun hm => ?_⟩
      · refine ss_cons <| s_delItem <| e_loc (i := 4) (by rfl) <| e_loc (i := 3) (by rfl) <| o_del (plI prog w) (k := a) (i := 3) (by rfl) hz3 hm ?_
        refine ss_nil <| ss_nil <| ss_nil ?_
        rw [del_tb]
        exact fin { O with Q := del_ O.Q a } (by unfold addOp; rw [e]; simp only [upT, of_decide_eq_false hg, if_false]; rfl)
      · refine ss_nil <| ss_nil <| ss_nil ?_
        refine fin O ?_
        have hn : at_ O.Q a = none := by rw [at_tb] at hm; simpa using hm
        unfold addOp; rw [e]; simp only [upT, of_decide_eq_false hg, if_false]
        show ({ O with Q := del_ O.Q a } : Ops) = O
        rw [del_none hn]
/-- an entry, as it is read -/
noncomputable def entD : Option (Int × Str) → PyData
  | some e => .tuple [.int e.1, .str e.2]
  | none => .none
theorem getD_ent (t : Tb) (a : Int) : (at_ (tbA t) a).getD (.d .none) = .d (entD (at_ t a)) := by
  rw [at_tb]; cases at_ t a <;> rfl
theorem fn_prefix (B : BA) (X : OA) (O : Ops) (a : Int) : Fn prog w (.ref 253) 1 [.v (.ref X.o), .d (.int a)] (opsRs prog w B X O) (fun av rs' nw => av = .d (entD (at_ O.P a)) ∧ rs' = opsRs prog w B X O ∧ nw = []) := by
  refine fn_body ["self", "a"] [] (by rfl) (by rfl) (by kernel_rfl) ?_ (by rfl) (by decide) (by decide) (by decide) ?_ (by rfl) (by rfl) (by rfl)
  · intro vals h
    obtain ⟨a, b, rfl⟩ := len2 h
    rfl
  intro C hC ho
  refine ss_cons <| s_ret <| e_meth <| e_attr <| e_loc (i := 0) (by rfl) <| o_attr (i := 0) (by rfl) (by rfl) ⟨_, gm_pl (plI prog w) (i := 1) (by rfl) PySem.F.slot_dict_get PySem.F.type_dict_get, kp_builtin, ?_⟩
  refine l_cons <| e_loc (i := 1) (by rfl) <| l_nil <| ol_get1 (plI prog w) (k := a) (i := 1) (by rfl) ?_
  rw [getD_ent]
  exact ⟨opsRs prog w B X O, [], [], .refl _, rfl, rfl, rfl, rfl⟩
theorem fn_infix (B : BA) (X : OA) (O : Ops) (a : Int) : Fn prog w (.ref 260) 1 [.v (.ref X.o), .d (.int a)] (opsRs prog w B X O) (fun av rs' nw => av = .d (entD (at_ O.I a)) ∧ rs' = opsRs prog w B X O ∧ nw = []) := by
  refine fn_body ["self", "a"] [] (by rfl) (by rfl) (by kernel_rfl) ?_ (by rfl) (by decide) (by decide) (by decide) ?_ (by rfl) (by rfl) (by rfl)
  · intro vals h
    obtain ⟨a, b, rfl⟩ := len2 h
    rfl
  intro C hC ho
  refine ss_cons <| s_ret <| e_meth <| e_attr <| e_loc (i := 0) (by rfl) <| o_attr (i := 0) (by rfl) (by rfl) ⟨_, gm_pl (plI prog w) (i := 2) (by rfl) PySem.F.slot_dict_get PySem.F.type_dict_get, kp_builtin, ?_⟩
  refine l_cons <| e_loc (i := 1) (by rfl) <| l_nil <| ol_get1 (plI prog w) (k := a) (i := 2) (by rfl) ?_
  rw [getD_ent]
  exact ⟨opsRs prog w B X O, [], [], .refl _, rfl, rfl, rfl, rfl⟩
theorem fn_postfix (B : BA) (X : OA) (O : Ops) (a : Int) : Fn prog w (.ref 267) 1 [.v (.ref X.o), .d (.int a)] (opsRs prog w B X O) (fun av rs' nw => av = .d (entD (at_ O.Q a)) ∧ rs' = opsRs prog w B X O ∧ nw = []) := by
  refine fn_body ["self", "a"] [] (by rfl) (by rfl) (by kernel_rfl) ?_ (by rfl) (by decide) (by decide) (by decide) ?_ (by rfl) (by rfl) (by rfl)
  · intro vals h
    obtain ⟨a, b, rfl⟩ := len2 h
    rfl
  intro C hC ho
  refine ss_cons <| s_ret <| e_meth <| e_attr <| e_loc (i := 0) (by rfl) <| o_attr (i := 0) (by rfl) (by rfl) ⟨_, gm_pl (plI prog w) (i := 3) (by rfl) PySem.F.slot_dict_get PySem.F.type_dict_get, kp_builtin, ?_⟩
  refine l_cons <| e_loc (i := 1) (by rfl) <| l_nil <| ol_get1 (plI prog w) (k := a) (i := 3) (by rfl) ?_
  rw [getD_ent]
  exact ⟨opsRs prog w B X O, [], [], .refl _, rfl, rfl, rfl, rfl⟩
end
end Mine
end
section
open PySem PySem.W
set_option maxRecDepth 100000
namespace Mine
section
variable {prog : Program} {w : World} {C : Cx w} {E : Value → Shared → Prop} {D : DS} {env : Env} {pos : Pos}
theorem e_bool1 {op : BoolOp} {x : Expr} {Q : AV → DS → Prop} (h : EV prog w C E (eval x env) D Q) : EV prog w C E (eval (.BoolOp op [x] pos) env) D Q := fun s d => PyProof.Rows.BoolOp_one (h s d)
inductive OrK (F : DS → Prop) (Q : AV → DS → Prop) (a : AV) (D : DS) : Prop
  | mk (b : Bool) (e : a = .d (.bool b)) (t : b = true → Q (.d (.bool true)) D) (f : b = false → F D) : OrK F Q a D
/-- x or y or ..., truths -/
theorem e_or {x y : Expr} {rest : List Expr} {Q : AV → DS → Prop}
    (h : EV prog w C E (eval x env) D (OrK (GW prog w C E Rv (eval (.BoolOp .Or (y :: rest) pos) env) Q) Q)) : EV prog w C E (eval (.BoolOp .Or (x :: y :: rest) pos) env) D Q := fun s d => by
  refine PyProof.Rows.BoolOp_or (wpAny_mono (h s d) (fun v s₁ p => ?_) fun _ _ x => x)
  obtain ⟨n, a, D₁, d₁, r, b, rfl, h1, h2⟩ := p
  rw [r.bool_]
  refine wpAny_truthy_bool ?_
  cases b with
  | true => exact ⟨n, _, D₁, d₁, .d (.bool _), h1 rfl⟩
  | false => exact wpAny_mono (h2 rfl s₁ d₁) (fun _ _ z => z.after n) fun _ _ x => x
/-- several targets -/
noncomputable def AW (prog : Program) {w : World} (C : Cx w) (E : Value → Shared → Prop) (elts : List Expr) (env : Env) (Q : DS → Prop) (l : List AV) (D : DS) : Prop :=
  ∀ s us, Den C D s → RvL s.heap us l → wpAny (model prog w) C.A (assignInOrder ((assignEach elts env).map (·.2)) us) (Po C Ru (KU Q) s) E s
noncomputable abbrev AL (prog : Program) {w : World} (C : Cx w) (E : Value → Shared → Prop) (elts : List Expr) (env : Env) (l : List AV) (D : DS) (Q : DS → Prop) : Prop := AW prog C E elts env Q l D
theorem al_nil {Q : DS → Prop} (h : Q D) : AL prog C E [] env [] D Q := fun s us d r => by
  cases r; exact wpAny_pure (.here (b := ()) d trivial h)
theorem al_cons {t : Expr} {ts : List Expr} {a : AV} {l : List AV} {Q : DS → Prop} (h : AS prog C E t env a D (AW prog C E ts env Q l)) (he : assignEach (t :: ts) env = (false, assign t env) :: assignEach ts env := by rfl) :
    AL prog C E (t :: ts) env (a :: l) D Q := fun s us d r => by
  cases r with
  | @cons v _ vs _ r1 r2 =>
    rw [he]
    show wpAny _ _ (do holding vs (assign t env v); assignInOrder ((assignEach ts env).map (·.2)) vs) _ _ _
    refine wpAny_bind (wpAny_holding (wpAny_mono (h s v d r1) (fun _ s₁ p => ?_) fun _ _ x => x))
    obtain ⟨n, _, D₁, d₁, _, q⟩ := p
    exact wpAny_mono (q s₁ vs d₁ (r2.le n.1)) (fun _ _ z => z.after n) fun _ _ x => x
theorem as_tup {elts : List Expr} {k : Nat} {p : Pos} {l : List AV} {Q : DS → Prop} (h : AL prog C E elts env l D Q) (hn : (assignEach elts env).length = l.length := by rfl) (hs : (assignEach elts env).findIdx? (·.1) = none := by rfl) :
    AS prog C E (.Tuple elts k p) env (.tup l) D Q := fun s u d r => by
  obtain ⟨a, o, vs, n, rfl, ho, hc, hd, hr⟩ := r.tupA
  · have hz : vs.size = l.length := by have := hr.length; simpa using this
    refine wpAny_assign_Tuple C.handled ⟨o, ho, hc, n, hd⟩ (hn.trans hz.symm) hs fun h' hx => ?_
    have hk : ∀ b o, s.heap.get? b = some o → h'.get? b = some o := fun b o e => hx b o (Nat.ne_of_lt (Heap.lt_size e)) e
    have st : Nxt s { s with heap := h' } ∧ Den C D { s with heap := h' } := d.step (tk := s.toks) [] (fun _ h => (nomatch h)) (fun a o _ e => hk a o e) (d.ns.mono (.of_keeps hk) fun o e => hk _ _ e) (fun r hr => r.loc (.of_keeps hk) (fun a _ o e => hk a o e) (d.regs r hr)) d.nodup fun a ha => .inl (.tail _ ha)
    exact wpAny_mono (h { s with heap := h' } vs.toList st.2 (hr.le st.1.1)) (fun _ _ z => z.after st.1) fun _ _ x => x
theorem as_tuple {elts : List Expr} {k : Nat} {p : Pos} {xs : List PyData} {Q : DS → Prop} (h : AL prog C E elts env (xs.map .d) D Q) (hn : (assignEach elts env).length = (xs.map AV.d).length := by rfl) (hs : (assignEach elts env).findIdx? (·.1) = none := by rfl) :
    AS prog C E (.Tuple elts k p) env (.d (.tuple xs)) D Q := fun s u d r => as_tup h hn hs s u d r.toTup
/-- a for whose targets are several, over a tuple -/
theorem letGo_tup {target : Expr} {I t : Addr} {k : Nat} {v : Value} {s : Shared} {Q : Unit → Shared → Prop} (hit : s.heap.IsTupleIter I t k) (h : Q () s) : wpAny (model prog w) C.A (letOwnedTupleGo target (.ref I) v) Q E s := by
  obtain ⟨o, ho, hc, hd⟩ := hit
  unfold letOwnedTupleGo
  split
  all_goals first
    | exact wpAny_pure h
    | (cases v <;> first
        | exact wpAny_pure h
        | (refine wpAny_bind (wpAny_load ho ?_)
           rw [hc, hd]
           dsimp only
           rw [if_neg (by simp)]
           exact wpAny_pure h))
inductive ForTK (prog : Program) (w : World) (C : Cx w) (E : Value → Shared → Prop) (target : Expr) (env : Env) (body : List Stmt) (Q : FL → DS → Prop) (ia : AV) (D : DS) : Prop
  | mk (I t : Addr) (l : List AV) (e : ia = .v (.ref I)) (J : Nat → DS → Prop) (h0 : JLI C J (srcTup prog C I t l) 0 D)
    (step : ∀ k x D', l[k]? = some x → J k D' → AS prog C E target env x ⟨D'.m, D'.rs ++ [itTup I t (k + 1) l]⟩ (GW prog w C E RF (execs body env) (LoopK (JLI C J (srcTup prog C I t l) (k + 1)) Q)))
    (hQ : ∀ D', J l.length D' → Q .next D') : ForTK prog w C E target env body Q ia D
theorem s_forT {target iter : Expr} {body : List Stmt} {Q : FL → DS → Prop}
    (h : EV prog w C E (eval iter env) D (P1 prog w C E Rv pyIter (ForTK prog w C E target env body Q)))
    (hE : PassesOwn (model prog w) C.A env E := by exact PassesOwn.never) (hf : ∀ x, foldedSetIterable iter env x = pure x := by intro _; rfl) :
    SV prog w C E (exec (.For target iter body [] pos) env) D Q := fun s d =>
  wpAny_For (wpAny_mono (seq1 (R := Rv) d h) (fun xv s₁ p => wpAny_mono p (fun iv s₂ p => by
    obtain ⟨n, ia, D₂, d₂, r, I, t, l, rfl, J, h0, step, hQ⟩ := p
    obtain rfl := r.v_
    have key : codeAny (model prog w) C.A (.forLoop target (.ref I) body [] env) (fun r s' => match r with | .ok f => Po C RF Q s₂ f s' | .error e => cameBackBy (model prog w) C.A env E e s') s₂ := by
      refine codeAny_forLoop_any (LI C l.length (fun k => itTup I t k l) J s₂) ?_ (l.length + 1) ?_
      · rintro n s₁ ⟨k, D', rfl, hkl, n1, d1, hJ⟩
        refine wpAny_mono ((srcTup prog C I t l).next E k ⟨D'.m, D'.rs ++ [itTup I t k l]⟩ D'.rs.length (fun o D₁ => match o with
          | none => l[k]? = none ∧ D₁ = D'
          | some x => l[k]? = some x ∧ D₁ = ⟨D'.m, D'.rs ++ [itTup I t (k + 1) l]⟩) hkl (fun r hr => (nomatch hr)) get_last (fun x hx => ⟨hx, by simp only [set_last]; rfl⟩) (fun hx => ⟨hx, by simp only [erase_last]⟩) s₁ d1)
          (fun v s₂ p => ?_) fun e s' x => hE e s' x
        obtain ⟨n2, o, D₁, d2, r, q⟩ := p
        cases r with
        | none =>
          obtain ⟨q, rfl⟩ := q
          have : k = l.length := Nat.le_antisymm hkl (List.getElem?_eq_none_iff.mp q)
          subst this
          exact wpAny_execs_nil ⟨n1.trans n2, .next, D₁, d2, .next, hQ D₁ hJ⟩
        | @some v a r =>
          obtain ⟨q, rfl⟩ := q
          have hlt : k < l.length := (List.getElem?_eq_some_iff.mp q).1
          refine letGo_tup (d2.regs _ (mem_of_get get_last)).1 ?_
          refine wpAny_mono (step k a D' q hJ s₂ v d2 r) (fun _ s₃ p => ?_) fun e s' x => hE e s' x
          obtain ⟨n3, _, D₂, d3, _, q3⟩ := p
          refine wpAny_mono (q3 s₃ d3) (fun f s₄ p => ?_) fun e s' x => hE e s' x
          obtain ⟨n4, f', D₃, d4, rf, q4⟩ := p
          have nn := n1.trans (n2.trans (n3.trans n4))
          cases rf with
          | next => obtain ⟨D₄, t, j⟩ := q4; exact ⟨l.length + 1 - (k + 1), by omega, k + 1, D₄, rfl, hlt, nn, t _ d4, j⟩
          | cont => obtain ⟨D₄, t, j⟩ := q4; exact ⟨l.length + 1 - (k + 1), by omega, k + 1, D₄, rfl, hlt, nn, t _ d4, j⟩
          | brk => exact ⟨nn, .next, D₃, d4, .next, q4⟩
          | ret r => exact ⟨nn, _, D₃, d4, .ret r, q4⟩
      · obtain ⟨D', t, j⟩ := h0
        exact ⟨0, D', rfl, Nat.zero_le _, .refl s₂, t s₂ d₂, j⟩
    refine codeAny_mono key fun r s' q => ?_
    cases r with
    | ok f => exact q.after n
    | error e => exact q) fun _ _ x => x) fun _ _ x => x) hf
end
end Mine
end
section
open PySem PySem.W
set_option maxRecDepth 100000
namespace Mine
section
variable {prog : Program} {w : World}
set_option maxHeartbeats 2000000
noncomputable def isOp (O : Ops) (a : Int) : Bool := (at_ O.P a).isSome || (at_ O.I a).isSome || (at_ O.Q a).isSome
theorem some_tb (t : Tb) (a : Int) : (at_ (tbA t) a).isSome = (at_ t a).isSome := by rw [at_tb]; simp
theorem fn_isOperator (B : BA) (X : OA) (O : Ops) (a : Int) : Fn prog w (.ref 274) 1 [.v (.ref X.o), .d (.int a)] (opsRs prog w B X O) (fun av rs' nw => av = .d (.bool (isOp O a)) ∧ rs' = opsRs prog w B X O ∧ nw = []) := by
  refine fn_body ["self", "a"] [] (by rfl) (by rfl) (by kernel_rfl) ?_ (by rfl) (by decide) (by decide) (by decide) ?_ (by rfl) (by rfl) (by rfl)
  · intro vals h
    obtain ⟨a, b, rfl⟩ := len2 h
    rfl
  intro C hC ho
  have fin : ∀ b, b = isOp O a → FnEnd (opsRs prog w B X O) (fun av rs' nw => av = .d (.bool (isOp O a)) ∧ rs' = opsRs prog w B X O ∧ nw = []) (.ret (.d (.bool b))) ⟨[], opsRs prog w B X O⟩ := fun b e =>
    ⟨opsRs prog w B X O, [], [], .refl _, rfl, by rw [← e]; rfl, rfl, rfl⟩
  refine ss_cons <| s_ret <| e_or <| e_cmp <| e_loc (i := 1) (by rfl) <| e_attr <| e_loc (i := 0) (by rfl) <| o_attr (i := 0) (by rfl) (by rfl) <| o_inD (plI prog w) (k := a) (i := 1) (by rfl) ⟨_, rfl, fun h1 => ?_, fun h1 => ?_⟩
  · rw [some_tb] at h1; exact fin true (by simp [isOp, h1])
  refine e_or <| e_cmp <| e_loc (i := 1) (by rfl) <| e_attr <| e_loc (i := 0) (by rfl) <| o_attr (i := 0) (by rfl) (by rfl) <| o_inD (plI prog w) (k := a) (i := 2) (by rfl) ⟨_, rfl, fun h2 => ?_, fun h2 => ?_⟩
  · rw [some_tb] at h2; exact fin true (by simp [isOp, h2])
  refine e_bool1 <| e_cmp <| e_loc (i := 1) (by rfl) <| e_attr <| e_loc (i := 0) (by rfl) <| o_attr (i := 0) (by rfl) (by rfl) <| o_inD (plI prog w) (k := a) (i := 3) (by rfl) ?_
  rw [some_tb] at h1 h2 ⊢
  exact fin _ (by simp [isOp, h1, h2])
noncomputable abbrev stdRows : List (Int × Str × List Str) := [(1200, "xfx", [":-", "-->"]), (1200, "fx", [":-", "?-"]), (1150, "fx", ["dynamic", "discontiguous"]), (1100, "xfy", [";", "|"]), (1050, "xfy", ["->"]), (900, "fy", ["\\+"]), (700, "xfx", ["=", "\\=", "==", "\\==", "@<", "@=<", "@>", "@>=", "=.."]), (700, "xfx", ["is", "=:=", "=\\=", "<", "=<", ">", ">="]), (500, "yfx", ["+", "-", "/\\", "\\/"]), (400, "yfx", ["*", "/", "//", "rem", "mod", "div", "<<", ">>"]), (200, "xfx", ["**"]), (200, "xfy", ["^"]), (200, "fy", ["-", "+", "\\"])]
noncomputable abbrev rowD (r : Int × Str × List Str) : PyData := .tuple [.int r.1, .str r.2.1, .tuple (r.2.2.map .str)]
theorem fn_standardRows : Fn prog w (.ref 224) 1 [] [] (fun av rs' nw => av = .d (.tuple (stdRows.map rowD)) ∧ rs' = [] ∧ nw = []) := by
  refine fn_body [] [] (by rfl) (by rfl) (by kernel_rfl) ?_ (by rfl) (by decide) (by decide) (by decide) ?_ (by rfl) (by rfl) (by rfl)
  · intro vals h
    obtain rfl := len0 h
    rfl
  intro C hC ho
  refine ss_cons ?_
  refine s_ret ?_
  refine e_tuple ?_
  refine l_tuple ?_
  refine l_int ?_
  refine l_str ?_
  refine l_tuple ?_
  iterate 2 (refine l_str ?_)
  refine l_nil ⟨[.str ":-", .str "-->"], rfl, Nat.le_of_ble_eq_true rfl, ?_⟩
  refine l_nil ⟨[.int 1200, .str "xfx", .tuple [.str ":-", .str "-->"]], rfl, Nat.le_of_ble_eq_true rfl, ?_⟩
  refine l_tuple ?_
  refine l_int ?_
  refine l_str ?_
  refine l_tuple ?_
  iterate 2 (refine l_str ?_)
  refine l_nil ⟨[.str ":-", .str "?-"], rfl, Nat.le_of_ble_eq_true rfl, ?_⟩
  refine l_nil ⟨[.int 1200, .str "fx", .tuple [.str ":-", .str "?-"]], rfl, Nat.le_of_ble_eq_true rfl, ?_⟩
  refine l_tuple ?_
  refine l_int ?_
  refine l_str ?_
  refine l_tuple ?_
  iterate 2 (refine l_str ?_)
  refine l_nil ⟨[.str "dynamic", .str "discontiguous"], rfl, Nat.le_of_ble_eq_true rfl, ?_⟩
  refine l_nil ⟨[.int 1150, .str "fx", .tuple [.str "dynamic", .str "discontiguous"]], rfl, Nat.le_of_ble_eq_true rfl, ?_⟩
  refine l_tuple ?_
  refine l_int ?_
  refine l_str ?_
  refine l_tuple ?_
  iterate 2 (refine l_str ?_)
  refine l_nil ⟨[.str ";", .str "|"], rfl, Nat.le_of_ble_eq_true rfl, ?_⟩
  refine l_nil ⟨[.int 1100, .str "xfy", .tuple [.str ";", .str "|"]], rfl, Nat.le_of_ble_eq_true rfl, ?_⟩
  refine l_tuple ?_
  refine l_int ?_
  refine l_str ?_
  refine l_tuple ?_
  iterate 1 (refine l_str ?_)
  refine l_nil ⟨[.str "->"], rfl, Nat.le_of_ble_eq_true rfl, ?_⟩
  refine l_nil ⟨[.int 1050, .str "xfy", .tuple [.str "->"]], rfl, Nat.le_of_ble_eq_true rfl, ?_⟩
  refine l_tuple ?_
  refine l_int ?_
  refine l_str ?_
  refine l_tuple ?_
  iterate 1 (refine l_str ?_)
  refine l_nil ⟨[.str "\\+"], rfl, Nat.le_of_ble_eq_true rfl, ?_⟩
  refine l_nil ⟨[.int 900, .str "fy", .tuple [.str "\\+"]], rfl, Nat.le_of_ble_eq_true rfl, ?_⟩
  refine l_tuple ?_
  refine l_int ?_
  refine l_str ?_
  refine l_tuple ?_
  iterate 9 (refine l_str ?_)
  refine l_nil ⟨[.str "=", .str "\\=", .str "==", .str "\\==", .str "@<", .str "@=<", .str "@>", .str "@>=", .str "=.."], rfl, Nat.le_of_ble_eq_true rfl, ?_⟩
  refine l_nil ⟨[.int 700, .str "xfx", .tuple [.str "=", .str "\\=", .str "==", .str "\\==", .str "@<", .str "@=<", .str "@>", .str "@>=", .str "=.."]], rfl, Nat.le_of_ble_eq_true rfl, ?_⟩
  refine l_tuple ?_
  refine l_int ?_
  refine l_str ?_
  refine l_tuple ?_
  iterate 7 (refine l_str ?_)
  refine l_nil ⟨[.str "is", .str "=:=", .str "=\\=", .str "<", .str "=<", .str ">", .str ">="], rfl, Nat.le_of_ble_eq_true rfl, ?_⟩
  refine l_nil ⟨[.int 700, .str "xfx", .tuple [.str "is", .str "=:=", .str "=\\=", .str "<", .str "=<", .str ">", .str ">="]], rfl, Nat.le_of_ble_eq_true rfl, ?_⟩
  refine l_tuple ?_
  refine l_int ?_
  refine l_str ?_
  refine l_tuple ?_
  iterate 4 (refine l_str ?_)
  refine l_nil ⟨[.str "+", .str "-", .str "/\\", .str "\\/"], rfl, Nat.le_of_ble_eq_true rfl, ?_⟩
  refine l_nil ⟨[.int 500, .str "yfx", .tuple [.str "+", .str "-", .str "/\\", .str "\\/"]], rfl, Nat.le_of_ble_eq_true rfl, ?_⟩
  refine l_tuple ?_
  refine l_int ?_
  refine l_str ?_
  refine l_tuple ?_
  iterate 8 (refine l_str ?_)
  refine l_nil ⟨[.str "*", .str "/", .str "//", .str "rem", .str "mod", .str "div", .str "<<", .str ">>"], rfl, Nat.le_of_ble_eq_true rfl, ?_⟩
  refine l_nil ⟨[.int 400, .str "yfx", .tuple [.str "*", .str "/", .str "//", .str "rem", .str "mod", .str "div", .str "<<", .str ">>"]], rfl, Nat.le_of_ble_eq_true rfl, ?_⟩
  refine l_tuple ?_
  refine l_int ?_
  refine l_str ?_
  refine l_tuple ?_
  iterate 1 (refine l_str ?_)
  refine l_nil ⟨[.str "**"], rfl, Nat.le_of_ble_eq_true rfl, ?_⟩
  refine l_nil ⟨[.int 200, .str "xfx", .tuple [.str "**"]], rfl, Nat.le_of_ble_eq_true rfl, ?_⟩
  refine l_tuple ?_
  refine l_int ?_
  refine l_str ?_
  refine l_tuple ?_
  iterate 1 (refine l_str ?_)
  refine l_nil ⟨[.str "^"], rfl, Nat.le_of_ble_eq_true rfl, ?_⟩
  refine l_nil ⟨[.int 200, .str "xfy", .tuple [.str "^"]], rfl, Nat.le_of_ble_eq_true rfl, ?_⟩
  refine l_tuple ?_
  refine l_int ?_
  refine l_str ?_
  refine l_tuple ?_
  iterate 3 (refine l_str ?_)
  refine l_nil ⟨[.str "-", .str "+", .str "\\"], rfl, Nat.le_of_ble_eq_true rfl, ?_⟩
  refine l_nil ⟨[.int 200, .str "fy", .tuple [.str "-", .str "+", .str "\\"]], rfl, Nat.le_of_ble_eq_true rfl, ?_⟩
  refine l_nil ⟨stdRows.map rowD, rfl, Nat.le_of_ble_eq_true rfl, ?_⟩
  exact ⟨[], [], [], .refl _, rfl, rfl, rfl, rfl⟩
end
end Mine
end
section
open PySem PySem.W
set_option maxRecDepth 100000
namespace Mine
noncomputable abbrev St := List Str × Ops
noncomputable def stp (S : St) (r : Int × Str × Str) : St := (addL S.1 r.2.2, addOp S.2 r.1 r.2.1 (ix (addL S.1 r.2.2) r.2.2 : Nat))
noncomputable def run (S : St) (l : List (Int × Str × Str)) : St := l.foldl stp S
noncomputable def flat (rows : List (Int × Str × List Str)) : List (Int × Str × Str) := rows.flatMap fun r => r.2.2.map fun n => (r.1, r.2.1, n)
noncomputable def opsC : Ops := addOp ⟨[], [], []⟩ 1000 "xfy" 7
theorem run_snoc (S : St) (l : List (Int × Str × Str)) (r : Int × Str × Str) : run S (l ++ [r]) = stp (run S l) r := by unfold run; rw [List.foldl_append]; rfl
theorem run_length : ∀ (l : List (Int × Str × Str)) (S : St), (run S l).1.length ≤ S.1.length + l.length
  | [], S => Nat.le_refl _
  | r :: l, S => by
    have ih := run_length l (stp S r)
    have h : (stp S r).1.length ≤ S.1.length + 1 := addL_length ..
    show (run (stp S r) l).1.length ≤ _
    simp only [List.length_cons]; omega
theorem run_small : ∀ (l : List (Int × Str × Str)) (S : St) (n : Nat), S.2.Small n → (run S l).2.Small (n + l.length)
  | [], S, n, h => h
  | r :: l, S, n, h => by
    have ih := run_small l (stp S r) (n + 1) (addOp_small h ..)
    show (run (stp S r) l).2.Small _
    simp only [List.length_cons]
    have e : n + 1 + l.length = n + (l.length + 1) := by omega
    rw [← e]; exact ih
theorem Ops.Small.mono {O : Ops} {n m : Nat} (h : O.Small n) (k : n ≤ m) : O.Small m := ⟨Nat.le_trans h.P k, Nat.le_trans h.I k, Nat.le_trans h.Q k⟩
theorem opsC_small : opsC.Small 1 := addOp_small (n := 0) ⟨Nat.le_refl _, Nat.le_refl _, Nat.le_refl _⟩ ..
noncomputable def started (T : List Str) (std : Bool) : St := if std then run (T, opsC) (flat stdRows) else (T, opsC)
theorem std_shaped : ∀ r ∈ stdRows, SeqAt.shaped (.str r.2.1) = true := by decide +kernel
theorem flat_take {rows : List (Int × Str × List Str)} {k : Nat} {r : Int × Str × List Str} (h : rows[k]? = some r) : flat (rows.take (k + 1)) = flat (rows.take k) ++ r.2.2.map fun n => (r.1, r.2.1, n) := by
  rw [List.take_add_one, h]; simp [flat]
theorem flat_len (k : Nat) : (flat (stdRows.take k)).length ≤ 60 := by
  have h : ∀ k < 14, (flat (stdRows.take k)).length ≤ 60 := by decide +kernel
  by_cases hk : k < 14
  · exact h k hk
  · have : stdRows.take k = stdRows.take 13 := by rw [List.take_of_length_le (show stdRows.length ≤ k from by show 13 ≤ k; omega)]; rfl
    rw [this]; exact h 13 (by omega)
section
variable {prog : Program} {w : World}
set_option maxHeartbeats 2000000
theorem fn_opsInit (B : BA) (T : List Str) (G : List (Int × Int)) (std : Bool) (hT : T.length ≤ 3000) (x dx : Addr) :
    Fn prog w (.ref 246) 4 [.v (.ref x), .v (.ref B.o), .d (.bool std)] (instR x dx 347 [] :: bookRs prog w B T G)
      (fun av rs' nw => av = .d .none ∧ ∃ X : OA, X.o = x ∧ X.d = dx ∧ rs' = instR x dx 347 (opsFs B X) :: bookRs prog w B (started T std).1 G ∧
        nw = [one prog w X.p (.dI (tbA (started T std).2.P)), one prog w X.i (.dI (tbA (started T std).2.I)), one prog w X.q (.dI (tbA (started T std).2.Q))]) := by
  refine FnH.fn (fn_bodyB ["self", "symbols", "standard"] ["priority", "type_text", "names", "name"] (by rfl) (by rfl) (by kernel_rfl) ?_ (by rfl) (by decide) (by decide) (by decide) ?_ (by rfl) (by rfl) (by rfl))
  · intro s vals X h
    obtain ⟨a, b, c, rfl⟩ := len3 h
    exact BindsTo.of_defaults (T := 239) rfl (X _ _ rfl) rfl rfl rfl
  intro C hC ho _
  refine ss_cons <| s_setattr <| e_loc (i := 1) (by rfl) <| e_loc (i := 0) (by rfl) <| u_attr (i := 0) (by rfl) ?_
  refine ss_cons <| s_setattr <| e_dict0 (plI prog w) fun p => e_loc (i := 0) (by rfl) <| u_attr (i := 0) (by rfl) ?_
  refine ss_cons <| s_setattr <| e_dict0 (plI prog w) fun i => e_loc (i := 0) (by rfl) <| u_attr (i := 0) (by rfl) ?_
  refine ss_cons <| s_setattr <| e_dict0 (plI prog w) fun q => e_loc (i := 0) (by rfl) <| u_attr (i := 0) (by rfl) ?_
  obtain ⟨X, rfl, rfl, rfl, rfl, rfl⟩ : ∃ X : OA, X.o = x ∧ X.d = dx ∧ X.p = p ∧ X.i = i ∧ X.q = q := ⟨⟨x, dx, p, i, q⟩, rfl, rfl, rfl, rfl, rfl⟩
  let W : Bool → St → DS := fun b S => ⟨[("self", some (.v (.ref X.o))), ("symbols", some (.v (.ref B.o))), ("standard", some (.d (.bool b))), ("priority", none), ("type_text", none), ("names", none), ("name", none)],
    instR X.o X.d 347 (opsFs B X) :: bookRs prog w B S.1 G ++ [one prog w X.p (.dI (tbA S.2.P)), one prog w X.i (.dI (tbA S.2.I)), one prog w X.q (.dI (tbA S.2.Q))]⟩
  refine GV.less (D' := W std (T, ⟨[], [], []⟩)) (fun s d => d) ?_
  refine ss_cut (fun D₁ => D₁ = W std (T, opsC)) ?_ ?_
  · refine s_expr <| e_meth <| e_loc (i := 0) (by rfl) ⟨_, gm_inst 288 (i := 0) (by rfl), kp_K (by kernel_rfl), ?_⟩
    refine l_cons <| e_glob (a := .d (.int 1000)) (by rfl) globInt <| l_cons <| e_str <| l_cons <| e_glob (a := .d (.int 7)) (by rfl) globInt ?_
    refine l_nil <| ol_f (fn_add B X ⟨[], [], []⟩ 1000 "xfy" 7 (by decide +kernel) ⟨by decide, by decide, by decide⟩) [0, 6, 7, 8] ?_
    refine w_x3 ?_
    exact ⟨_, fun _ d => d, rfl⟩
  refine w_eq ?_
  have fin : ∀ b, started T std = b → FnEnd (instR X.o X.d 347 [] :: bookRs prog w B T G) (fun av rs' nw => av = .d .none ∧ ∃ X' : OA, X'.o = X.o ∧ X'.d = X.d ∧ rs' = instR X.o X.d 347 (opsFs B X') :: bookRs prog w B (started T std).1 G ∧
        nw = [one prog w X'.p (.dI (tbA (started T std).2.P)), one prog w X'.i (.dI (tbA (started T std).2.I)), one prog w X'.q (.dI (tbA (started T std).2.Q))]) .next (W std b) := fun b e =>
    ⟨instR X.o X.d 347 (opsFs B X) :: bookRs prog w B b.1 G, [one prog w X.p (.dI (tbA b.2.P)), one prog w X.i (.dI (tbA b.2.I)), one prog w X.q (.dI (tbA b.2.Q))], [], List.Perm.of_eq (List.append_nil _).symm, rfl, rfl, X, rfl, rfl, by rw [e], by rw [e]⟩
  refine ss_cons <| s_if <| b_val <| e_loc (i := 2) (by rfl) <| t_bool ⟨fun hs => ?_, fun hs => ?_⟩
  rotate_left
  · exact ss_nil <| ss_nil <| fin (T, opsC) (by unfold started; rw [hs]; rfl)
  refine ss_cut (fun D₁ => D₁ = W std (run (T, opsC) (flat stdRows))) ?_ ?_
  rotate_left
  · refine w_eq ?_
    exact ss_nil <| ss_nil <| fin _ (by unfold started; rw [hs]; rfl)
  refine s_forT <| e_fcall 224 <| l_nil <| ol_f fn_standardRows [] ?_
  refine w_x3 ?_
  refine oi_tuple fun I t => ⟨I, t, _, rfl, fun k D' => D' = W std (run (T, opsC) (flat (stdRows.take k))), ⟨_, to_of, rfl⟩, ?_, ?_⟩
  rotate_left
  · refine w_eq ?_
    exact ⟨_, fun _ d => d, rfl⟩
  rintro k a _ hx rfl
  obtain ⟨r, hr, rfl⟩ : ∃ r, stdRows[k]? = some r ∧ a = .d (rowD r) := by
    simp only [List.getElem?_map, Option.map_eq_some_iff] at hx
    obtain ⟨_, ⟨r, h1, rfl⟩, rfl⟩ := hx
    exact ⟨r, h1, rfl⟩
  refine as_tuple (al_cons <| as_name (i := 3) (by rfl) <| al_cons <| as_name (i := 4) (by rfl) <| al_cons <| as_name (i := 5) (by rfl) <| al_nil ?_)
  refine ss_cut (fun D₁ => D₁ = ⟨(W std (T, opsC)).m, (W std (run (T, opsC) (flat (stdRows.take (k + 1))))).rs ++ [itTup I t (k + 1) ((stdRows.map rowD).map .d)]⟩) ?_ ?_
  rotate_left
  · refine w_eq ?_
    exact ss_nil ⟨_, fun _ d => d, rfl⟩
  have hfl := flat_take hr
  have hl1 := flat_len (k + 1)
  rw [hfl, List.length_append, List.length_map] at hl1
  let V : St → DS := fun S => ⟨[("self", some (.v (.ref X.o))), ("symbols", some (.v (.ref B.o))), ("standard", some (.d (.bool std))), ("priority", some (.d (.int r.1))), ("type_text", some (.d (.str r.2.1))), ("names", none), ("name", none)], (W std S).rs ++ [itTup I t (k + 1) ((stdRows.map rowD).map .d)]⟩
  refine s_for <| e_loc (i := 5) (by rfl) ?_
  refine oi_tuple fun J t' => ⟨srcTup prog C J t' ((r.2.2.map .str).map .d), rfl, fun j D' => D' = V (run (T, opsC) (flat (stdRows.take k) ++ (r.2.2.take j).map fun n => (r.1, r.2.1, n))), fun _ _ _ _ h => (nomatch h), ⟨V (run (T, opsC) (flat (stdRows.take k) ++ (r.2.2.take 0).map fun n => (r.1, r.2.1, n))), ?_, rfl⟩, ?_, ?_⟩
  · rw [List.take_zero, List.map_nil, List.append_nil]
    exact to_of
  · rintro j a _ hx rfl
    obtain ⟨n, hn, rfl⟩ : ∃ n, r.2.2[j]? = some n ∧ a = .d (.str n) := by
      simp only [srcTup, List.getElem?_map, Option.map_eq_some_iff] at hx
      obtain ⟨_, ⟨n, h1, rfl⟩, rfl⟩ := hx
      exact ⟨n, h1, rfl⟩
    have hj : j < r.2.2.length := (List.getElem?_eq_some_iff.mp hn).1
    generalize hS : run (T, opsC) (flat (stdRows.take k) ++ (r.2.2.take j).map fun n => (r.1, r.2.1, n)) = S
    have hSn : run (T, opsC) (flat (stdRows.take k) ++ (r.2.2.take (j + 1)).map fun n => (r.1, r.2.1, n)) = stp S (r.1, r.2.1, n) := by
      rw [← hS, ← run_snoc, List.take_add_one, hn, List.map_append, List.append_assoc]; rfl
    have len : (flat (stdRows.take k) ++ (r.2.2.take j).map fun n => (r.1, r.2.1, n)).length ≤ 60 := by
      rw [List.length_append, List.length_map, List.length_take]; omega
    have h1 : S.1.length ≤ 3060 := by
      have := run_length (flat (stdRows.take k) ++ (r.2.2.take j).map fun n => (r.1, r.2.1, n)) (T, opsC)
      rw [hS] at this; simp only at this; omega
    have h2 : S.2.Small 5000 := by
      have := run_small (flat (stdRows.take k) ++ (r.2.2.take j).map fun n => (r.1, r.2.1, n)) (T, opsC) 1 opsC_small
      rw [hS] at this; exact this.mono (by omega)
    refine as_name (i := 6) (by rfl) ?_
    refine ss_cons <| s_expr <| e_meth <| e_loc (i := 0) (by rfl) ⟨_, gm_inst 288 (i := 0) (by rfl), kp_K (by kernel_rfl), ?_⟩
    refine l_cons <| e_loc (i := 3) (by rfl) <| l_cons <| e_loc (i := 4) (by rfl) ?_
    refine l_cons <| e_meth <| e_loc (i := 1) (by rfl) ⟨_, gm_inst 88 (i := 1) (by rfl), kp_K (by kernel_rfl), l_cons <| e_loc (i := 6) (by rfl) <| l_nil <| ol_f (fn_atom B S.1 G n (by omega)) [1, 2, 3, 4, 5] ?_⟩
    refine w_x3 ?_
    refine l_nil <| ol_f (fn_add B X S.2 r.1 r.2.1 (ix (addL S.1 n) n : Nat) (std_shaped r (List.mem_of_getElem? hr)) h2) [0, 6, 7, 8] ?_
    refine w_x3 ?_
    refine ss_nil ⟨V (stp S (r.1, r.2.1, n)), ?_, congrArg V hSn.symm⟩
    exact to_of
  · refine w_eq ?_
    refine ⟨_, ?_, rfl⟩
    have e : (r.2.2.take (srcTup prog C J t' ((r.2.2.map .str).map .d)).l.length) = r.2.2 := by
      rw [show (srcTup prog C J t' ((r.2.2.map .str).map .d)).l.length = r.2.2.length from by simp [srcTup], List.take_length]
    rw [e, ← hfl]
    exact to_of
end
end Mine
end
section
open PySem PySem.W
set_option maxRecDepth 100000
namespace Mine
namespace Tm
noncomputable def isV (t : Tm) : Bool := t.tag == ("v" : Str)
noncomputable def isA (t : Tm) : Bool := t.tag == ("a" : Str)
noncomputable def isI (t : Tm) : Bool := t.tag == ("i" : Str)
/-- fit to be handled -/
structure Fit (t : Tm) : Prop where
  ok : t.ok
  len : t.len ≤ 50
  dep : t.dep ≤ 50
end Tm
noncomputable def namesOf : Tm → List Tm
  | .dot x y => x :: y.items
  | t => [t]
section
variable {prog : Program} {w : World} {C : Cx w} {E : Value → Shared → Prop} {D : DS} {env : Env} {pos : Pos}
theorem s_assignT {elts : List Expr} {k : Nat} {tpos : Pos} {value : Expr} {Q : FL → DS → Prop} (h : EV prog w C E (eval value env) D (fun a D₁ => AS prog C E (.Tuple elts k tpos) env a D₁ (Q .next)))
    (hs : swapsWithSole [.Tuple elts k tpos] value pos.line env = pure false := by rfl) (hw : swappedStores [.Tuple elts k tpos] value env = pure none := by rfl) : SV prog w C E (exec (.Assign [.Tuple elts k tpos] value pos) env) D Q := fun s d =>
  PyProof.Rows.Assign_Tuple (wpAny_mono (seq1 (R := Ru) (f := fun v => assign (.Tuple elts k tpos) env v) (Q := fun _ => Q .next) d h) (fun v s₁ p => wpAny_mono p (fun _ s₂ p => by
    obtain ⟨n, _, D', d', _, q⟩ := p
    exact ⟨n, _, D', d', .next, q⟩) fun _ _ x => x) fun _ _ x => x) hs hw
theorem i_tm {v sl : Expr} {k : Nat} {t : Tm} {x : PyData} {Q : AV → DS → Prop} (hx : t.fld[k]? = some x) (h : Q (.d x) D) (hk : k < 1000 := by decide) (hs : PlainSub sl := by intro _ _ _; rfl) :
    O2 prog w C E Rv (PyProof.Rows.subscriptTail v sl) (.d t.py) (.d (.int k)) D Q := by rw [t.py_fld]; exact i_tuple hx h hk hs
theorem o_tagEq {t : Tm} {x : Str} {Q : AV → DS → Prop} (h : Q (.d (.bool (t.tag == x))) D) (hx : SeqAt.shaped (.str x) = true := by decide +kernel) : O2 prog w C E Rv (compareOp .Eq) (.d (.str t.tag)) (.d (.str x)) D Q := o_eq t.tagShaped hx h
theorem o_tagNe {t : Tm} {x : Str} {Q : AV → DS → Prop} (h : Q (.d (.bool (!(t.tag == x)))) D) (hx : SeqAt.shaped (.str x) = true := by decide +kernel) : O2 prog w C E Rv (compareOp .NotEq) (.d (.str t.tag)) (.d (.str x)) D Q := o_ne t.tagShaped hx h
theorem o_nil {t : Tm} {Q : AV → DS → Prop} (ht : t.dep ≤ 60) (h : Q (.d (.bool t.isNil)) D) : O2 prog w C E Rv (compareOp .Eq) (.d t.py) (.d nilD) D Q := o_eq (Tm.shaped ht) nil_shaped (by rw [t.eqvNil]; exact h)
theorem o_nilNe {t : Tm} {Q : AV → DS → Prop} (ht : t.dep ≤ 60) (h : Q (.d (.bool (!t.isNil))) D) : O2 prog w C E Rv (compareOp .NotEq) (.d t.py) (.d nilD) D Q := o_ne (Tm.shaped ht) nil_shaped (by rw [t.eqvNil]; exact h)
end
theorem Tm.tail_dep (t : Tm) : t.tail.dep ≤ t.dep := by
  induction t with
  | dot x y _ ih => simp only [Tm.tail, Tm.dep]; omega
  | _ => exact Nat.le_refl _
section
variable {prog : Program} {w : World}
set_option maxHeartbeats 2000000
theorem fn_namesOf (self : Value) (t : Tm) (ht : t.Fit) : Fn prog w (.ref 323) 2 [.v self, .d t.py] [] (fun av rs' nw => ∃ a, av = .v (.ref a) ∧ rs' = [] ∧ nw = [one prog w a (.list (tmsA (namesOf t)))]) := by
  refine fn_body ["self", "name_term"] ["items", "tail"] (by rfl) (by rfl) (by kernel_rfl) ?_ (by rfl) (by decide) (by decide) (by decide) ?_ (by rfl) (by rfl) (by rfl)
  · intro vals h
    obtain ⟨a, b, rfl⟩ := len2 h
    rfl
  intro C hC ho
  refine ss_cons ?_
  refine s_if <| b_cmp <| e_loc (i := 1) (by rfl) ?_
  refine e_tuple ?_
  refine l_str ?_
  refine l_cons <| e_glob (a := .d (.int 0)) (by rfl) globInt <| l_nil ⟨[.str "a", .int 0], rfl, by simp, ?_⟩
  refine o_nil (by have := ht.dep; omega) ⟨_, rfl, fun hn => ?_, fun hn => ?_⟩
  · refine ss_cons <| s_ret <| e_list <| l_cons <| e_loc (i := 1) (by rfl) <| l_nil ⟨by simp, fun a => ?_⟩
    have e : namesOf t = [t] := by cases t with | dot x y => cases hn | _ => rfl
    exact ⟨[], [one prog w a (.list [.d t.py])], [], .refl _, rfl, a, rfl, rfl, by rw [e]; rfl⟩
  refine ss_nil <| ss_cons <| s_assignT <| e_fcall 172 <| l_cons <| e_loc (i := 1) (by rfl) <| l_nil <| ol_f (fn_listItems t ht.ok (by have := ht.len; omega)) [] ?_
  rintro _ _ _ ⟨a, rfl, rfl, rfl⟩
  refine as_tup <| al_cons <| as_name (i := 2) (by rfl) <| al_cons <| as_name (i := 3) (by rfl) <| al_nil ?_
  have hl : (tmsA t.items).length = t.len := by simp [t.items_length]
  refine ss_cons <| s_if <| b_cmp <| e_bcall (l_cons <| e_loc (i := 2) (by rfl) <| l_nil <| ol_len (i := 0) (by rfl) (by rw [hl]; have := ht.len; omega) ?_) kp_builtin
  rw [hl]
  refine e_int <| o_gt ⟨_, rfl, fun hg => ?_, fun hg => ?_⟩
  · refine ss_cons <| s_ret <| e_loc (i := 2) (by rfl) ?_
    have e : namesOf t = t.items := by
      cases t with
      | dot x y => rfl
      | _ => simp [Tm.len] at hg
    exact ⟨[], [one prog w a (.list (tmsA t.items))], [], .refl _, rfl, a, rfl, rfl, by rw [e]⟩
  · refine ss_nil <| ss_cons <| s_ret <| e_list <| l_cons <| e_loc (i := 1) (by rfl) <| l_nil ⟨by simp, fun b => ?_⟩
    have e : namesOf t = [t] := by
      cases t with
      | dot x y => simp [Tm.len] at hg
      | _ => rfl
    exact ⟨[], [one prog w b (.list [.d t.py])], [one prog w a (.list (tmsA t.items))], List.Perm.swap _ _ _, rfl, b, rfl, rfl, by rw [e]; rfl⟩
noncomputable abbrev sysRs (prog : Program) (w : World) (B : BA) (X : OA) (O : Ops) (T : List Str) (G : List (Int × Int)) (a : Addr) (l : List Tm) : List Reg := opsRs prog w B X O ++ (bookRs prog w B T G ++ [one prog w a (.list (tmsA l))])
/-- an error is raised -/
noncomputable def ErX (prog : Program) (w : World) (B : BA) (X : OA) (O : Ops) (T : List Str) (G : List (Int × Int)) (a : Addr) (l : List Tm) (e : Option Er) (ball : AV) (rs' : List Reg) : Prop :=
  ∃ er, e = some er ∧ ball = .d (ballOf (er.out T G).1) ∧ rs' = sysRs prog w B X O (er.out T G).2.1 (er.out T G).2.2 a l
noncomputable def OkX (prog : Program) (w : World) (B : BA) (X : OA) (O : Ops) (T : List Str) (G : List (Int × Int)) (a : Addr) (l : List Tm) (e : Option Er) (av : AV) (rs' nw : List Reg) : Prop :=
  e = none ∧ av = .d .none ∧ rs' = sysRs prog w B X O T G a l ∧ nw = []
noncomputable def errI (p ty nm : Tm) (l : List Tm) : Option Er :=
  if p.isV || ty.isV then some .inst else if nm.tail.isV then some .inst else if nm.tail.isNil && l.any Tm.isV then some .inst else none
variable (B : BA) (X : OA) (O : Ops) (T : List Str) (G : List (Int × Int)) (a : Addr) (l : List Tm)
theorem sys_foot {T' : List Str} {G' : List (Int × Int)} : (sysRs prog w B X O T' G' a l).map Reg.foot = (sysRs prog w B X O T G a l).map Reg.foot := rfl
theorem erEnd {e : Option Er} {er : Er} {junk : List Reg} (he : e = some er) : ∀ av rs' nw, ErrQ prog w B er T G av rs' nw → RaiseE prog w (FnEndX (sysRs prog w B X O T G a l) (ErX prog w B X O T G a l e)) av (setAll (sysRs prog w B X O T G a l ++ junk) [4, 5, 6, 7, 8] rs' ++ nw) := by
  rintro av rs' nw ⟨⟨e', da, t, rfl, rfl⟩, rfl⟩
  exact ⟨e', da, t, _, sysRs prog w B X O (er.out T G).2.1 (er.out T G).2.2 a l ++ junk, rfl, rfl, sysRs prog w B X O (er.out T G).2.1 (er.out T G).2.2 a l, junk, .refl _, rfl, er, he, rfl, rfl⟩
theorem fn_checkInst (p ty nm : Tm) (hp : p.Fit) (hy : ty.Fit) (hn : nm.Fit) (hl : l.length ≤ 60) (hT : T.length ≤ 4000) :
    FnX prog w (.ref 330) 5 [.v (.ref X.o), .d p.py, .d ty.py, .d nm.py, .v (.ref a)] (sysRs prog w B X O T G a l) (OkX prog w B X O T G a l (errI p ty nm l)) (ErX prog w B X O T G a l (errI p ty nm l)) := by
  refine fnX_body ["self", "priority_term", "type_term", "name_term", "items"] ["tail", "item"] (by rfl) (by rfl) (by kernel_rfl) ?_ (by rfl) (by decide) (by decide) (by decide) ?_ (by rfl) (by rfl) (by rfl)
  · intro vals h
    obtain ⟨a, b, c, d, e, rfl⟩ := len5 h
    rfl
  intro C hC ho OO
  refine ss_cons ?_
  refine s_if <| b_bool <| b_or <| b_cmp <| e_sub <| e_loc (i := 1) (by rfl) <| e_int <| i_tm (k := 0) p.fld0 <| e_str <| o_tagEq ⟨_, rfl, fun h1 => ⟨fun _ => ?_, fun e => absurd e.symm Bool.false_ne_true⟩, fun h1 => ?_⟩
  · refine ss_cons <| s_raise <| e_fcall 193 <| l_cons <| e_attr <| e_loc (i := 0) (by rfl) <| o_attr (i := 0) (by rfl) (by rfl) <| l_nil <| ol_f (fn_instErr B T G hT) [4, 5, 6, 7, 8] ?_
    exact erEnd B X O T G a l (junk := []) (by simp [errI, Tm.isV, h1])
  refine b_or <| b_cmp <| e_sub <| e_loc (i := 2) (by rfl) <| e_int <| i_tm (k := 0) ty.fld0 <| e_str <| o_tagEq ⟨_, rfl, fun h2 => ⟨fun _ => ?_, fun e => absurd e.symm Bool.false_ne_true⟩, fun h2 => ?_⟩
  · refine ss_cons <| s_raise <| e_fcall 193 <| l_cons <| e_attr <| e_loc (i := 0) (by rfl) <| o_attr (i := 0) (by rfl) (by rfl) <| l_nil <| ol_f (fn_instErr B T G hT) [4, 5, 6, 7, 8] ?_
    exact erEnd B X O T G a l (junk := []) (by simp [errI, Tm.isV, h2])
  refine b_or_nil ⟨fun e => absurd e Bool.false_ne_true, fun _ => ss_nil ?_⟩
  have e12 : (p.isV || ty.isV) = false := by simp [Tm.isV, h1, h2]
  refine ss_cons <| s_assign (i := 5) <| e_sub <| e_fcall 172 <| l_cons <| e_loc (i := 3) (by rfl) <| l_nil <| ol_f (fn_listItems nm hn.ok (by have := hn.len; omega)) [] ?_
  rintro _ _ _ ⟨b, rfl, rfl, rfl⟩
  refine e_int <| i_tup (k := 1) (by rfl) ⟨⟨_, by rfl⟩, ?_⟩
  refine ss_cons <| s_if <| b_cmp <| e_sub <| e_loc (i := 5) (by rfl) <| e_int <| i_tm (k := 0) nm.tail.fld0 <| e_str <| o_tagEq ⟨_, rfl, fun h3 => ?_, fun h3 => ?_⟩
  · refine ss_cons <| s_raise <| e_fcall 193 <| l_cons <| e_attr <| e_loc (i := 0) (by rfl) <| o_attr (i := 0) (by rfl) (by rfl) <| l_nil <| ol_f (fn_instErr B T G hT) [4, 5, 6, 7, 8] ?_
    exact erEnd B X O T G a l (junk := [_]) (by unfold errI; rw [e12]; simp [Tm.isV, h3])
  refine ss_nil <| ss_cons ?_
  refine s_if <| b_cmp <| e_loc (i := 5) (by rfl) ?_
  refine e_tuple ?_
  refine l_str ?_
  refine l_cons <| e_glob (a := .d (.int 0)) (by rfl) globInt <| l_nil ⟨[.str "a", .int 0], rfl, by simp, ?_⟩
  have e3 : nm.tail.isV = false := by simp [Tm.isV, h3]
  have td : nm.tail.dep ≤ 60 := by have := hn.dep; have := nm.tail_dep; omega
  refine o_nil td ⟨_, rfl, fun h4 => ?_, fun h4 => ?_⟩
  rotate_left
  · refine ss_nil <| ss_nil ?_
    exact ⟨sysRs prog w B X O T G a l, [], [_], .refl _, rfl, by unfold errI; rw [e12, e3, h4]; rfl, rfl, rfl, rfl⟩
  have fin : l.any Tm.isV = false → errI p ty nm l = none := fun e => by unfold errI; rw [e12, e3, h4, e]; rfl
  refine ss_cut (fun D₁ => l.any Tm.isV = false ∧ D₁ = ⟨[("self", some (.v (.ref X.o))), ("priority_term", none), ("type_term", none), ("name_term", none), ("items", none), ("tail", none), ("item", none)], sysRs prog w B X O T G a l⟩) ?_ ?_
  rotate_left
  · refine w_eq' fun e => ?_
    exact ss_nil <| ss_nil ⟨sysRs prog w B X O T G a l, [], [], .refl _, rfl, fin e, rfl, rfl, rfl⟩
  refine s_for (e_loc (i := 4) (by rfl) ?_) (EX.passes OO)
  refine oi_list (i := 9) (by rfl) fun I => ⟨srcList prog C I a (tmsA l), rfl, fun k D' => (l.take k).any Tm.isV = false ∧ D' = ⟨[("self", some (.v (.ref X.o))), ("priority_term", none), ("type_term", none), ("name_term", none), ("items", none), ("tail", none), ("item", none)], sysRs prog w B X O T G a l⟩, ?_, ⟨_, to_oS, rfl, rfl⟩, ?_, ?_⟩
  · rintro k _ ⟨_, rfl⟩ r hr
    rw [List.mem_singleton.mp hr]
    exact List.mem_append_right _ (List.mem_append_right _ (.head _))
  rotate_left
  · refine w_eq' fun e => ?_
    refine ⟨_, fun _ d => d, ?_, rfl⟩
    rwa [show (srcList prog C I a (tmsA l)).l.length = l.length from by simp [srcList], List.take_length] at e
  rintro k x _ hx ⟨e, rfl⟩
  obtain ⟨u, hu, rfl⟩ : ∃ u, l[k]? = some u ∧ x = .d u.py := by
    simp only [srcList, List.getElem?_map, Option.map_eq_some_iff] at hx
    obtain ⟨u, h1, rfl⟩ := hx
    exact ⟨u, h1, rfl⟩
  refine as_name (i := 6) (by rfl) ?_
  refine ss_cons <| s_if <| b_cmp <| e_sub <| e_loc (i := 6) (by rfl) <| e_int <| i_tm (k := 0) u.fld0 <| e_str <| o_tagEq ⟨_, rfl, fun h5 => ?_, fun h5 => ?_⟩
  · refine ss_cons <| s_raise <| e_fcall 193 <| l_cons <| e_attr <| e_loc (i := 0) (by rfl) <| o_attr (i := 0) (by rfl) (by rfl) <| l_nil <| ol_f (fn_instErr B T G hT) [4, 5, 6, 7, 8] ?_
    exact erEnd B X O T G a l (junk := [_]) (by
      unfold errI; rw [e12, e3, h4]
      have : l.any Tm.isV = true := List.any_eq_true.mpr ⟨u, List.mem_of_getElem? hu, h5⟩
      rw [this]; rfl)
  · refine ss_nil <| ss_nil ⟨_, to_of, ?_, rfl⟩
    rw [List.take_add_one, hu, List.any_append, e]
    show ([u].any Tm.isV) = false
    simp [Tm.isV, h5]
end
end Mine
end
section
open PySem PySem.W
set_option maxRecDepth 100000
namespace Mine
noncomputable def errT (p ty nm : Tm) (l : List Tm) : Option Er :=
  if !p.isI then some (.ty "integer" p.py) else if !ty.isA then some (.ty "atom" ty.py) else if !nm.isA && !nm.tail.isNil then some (.ty "list" nm.py) else (l.find? fun t => !t.isA).map fun t => .ty "atom" t.py
section
variable {prog : Program} {w : World}
set_option maxHeartbeats 2000000
variable (B : BA) (X : OA) (O : Ops) (T : List Str) (G : List (Int × Int)) (a : Addr) (l : List Tm)
theorem fn_checkTypes (p ty nm : Tm) (hp : p.Fit) (hy : ty.Fit) (hn : nm.Fit) (hl : l.length ≤ 60) (hT : T.length ≤ 4000) (hG : G.length ≤ 4000) :
    FnX prog w (.ref 337) 5 [.v (.ref X.o), .d p.py, .d ty.py, .d nm.py, .v (.ref a)] (sysRs prog w B X O T G a l) (OkX prog w B X O T G a l (errT p ty nm l)) (ErX prog w B X O T G a l (errT p ty nm l)) := by
  refine fnX_body ["self", "priority_term", "type_term", "name_term", "items"] ["item"] (by rfl) (by rfl) (by kernel_rfl) ?_ (by rfl) (by decide) (by decide) (by decide) ?_ (by rfl) (by rfl) (by rfl)
  · intro vals h
    obtain ⟨a, b, c, d, e, rfl⟩ := len5 h
    rfl
  intro C hC ho OO
  refine ss_cons ?_
  refine s_if <| b_cmp <| e_sub <| e_loc (i := 1) (by rfl) <| e_int <| i_tm (k := 0) p.fld0 <| e_str <| o_tagNe ⟨_, rfl, fun h1 => ?_, fun h1 => ?_⟩
  · refine ss_cons <| s_raise <| e_fcall 200 <| l_cons <| e_attr <| e_loc (i := 0) (by rfl) <| o_attr (i := 0) (by rfl) (by rfl) <| l_cons <| e_str <| l_cons <| e_loc (i := 1) (by rfl) <| l_nil <| ol_f (fn_typeErr B T G "integer" p hT hG) [4, 5, 6, 7, 8] ?_
    exact erEnd B X O T G a l (junk := []) (by unfold errT; rw [if_pos (show (!p.isI) = true from h1)])
  have e1 : ¬ ((!p.isI) = true) := fun q => by rw [show (!p.isI) = false from h1] at q; cases q
  refine ss_nil <| ss_cons <| s_if <| b_cmp <| e_sub <| e_loc (i := 2) (by rfl) <| e_int <| i_tm (k := 0) ty.fld0 <| e_str <| o_tagNe ⟨_, rfl, fun h2 => ?_, fun h2 => ?_⟩
  · refine ss_cons <| s_raise <| e_fcall 200 <| l_cons <| e_attr <| e_loc (i := 0) (by rfl) <| o_attr (i := 0) (by rfl) (by rfl) <| l_cons <| e_str <| l_cons <| e_loc (i := 2) (by rfl) <| l_nil <| ol_f (fn_typeErr B T G "atom" ty hT hG) [4, 5, 6, 7, 8] ?_
    exact erEnd B X O T G a l (junk := []) (by unfold errT; rw [if_neg e1, if_pos (show (!ty.isA) = true from h2)])
  have e2 : ¬ ((!ty.isA) = true) := fun q => by rw [show (!ty.isA) = false from h2] at q; cases q
  refine ss_nil ?_
  have td : nm.tail.dep ≤ 60 := by have := hn.dep; have := nm.tail_dep; omega
  refine ss_cut (fun D₁ => (!nm.isA && !nm.tail.isNil) = false ∧ D₁ = ⟨[("self", some (.v (.ref X.o))), ("priority_term", none), ("type_term", none), ("name_term", none), ("items", some (.v (.ref a))), ("item", none)], sysRs prog w B X O T G a l⟩) ?_ ?_
  · refine s_if <| b_bool <| b_and <| b_cmp <| e_sub <| e_loc (i := 3) (by rfl) <| e_int <| i_tm (k := 0) nm.fld0 <| e_str <| o_tagNe ⟨_, rfl, fun h3 => ?_, fun h3 => ⟨fun e => absurd e Bool.false_ne_true, fun _ => ss_nil ⟨_, to_of, by rw [show (!nm.isA) = false from h3]; rfl, rfl⟩⟩⟩
    refine b_and <| b_cmp <| e_sub <| e_fcall 172 <| l_cons <| e_loc (i := 3) (by rfl) <| l_nil <| ol_f (fn_listItems nm hn.ok (by have := hn.len; omega)) [] ?_
    rintro _ _ _ ⟨b, rfl, rfl, rfl⟩
    refine e_int <| i_tup (k := 1) (by rfl) ?_
    refine e_tuple ?_
    refine l_str ?_
    refine l_cons <| e_glob (a := .d (.int 0)) (by rfl) globInt <| l_nil ⟨[.str "a", .int 0], rfl, by simp, ?_⟩
    refine o_nilNe td ⟨_, rfl, fun h4 => ?_, fun h4 => ⟨fun e => absurd e Bool.false_ne_true, fun _ => ss_nil ⟨_, to_of, by rw [h4, Bool.and_false], rfl⟩⟩⟩
    refine b_and_nil ⟨fun _ => ?_, fun e => absurd e.symm Bool.false_ne_true⟩
    refine ss_cons <| s_raise <| e_fcall 200 <| l_cons <| e_attr <| e_loc (i := 0) (by rfl) <| o_attr (i := 0) (by rfl) (by rfl) <| l_cons <| e_str <| l_cons <| e_loc (i := 3) (by rfl) <| l_nil <| ol_f (fn_typeErr B T G "list" nm hT hG) [4, 5, 6, 7, 8] ?_
    exact erEnd B X O T G a l (junk := [_]) (by unfold errT; rw [if_neg e1, if_neg e2, if_pos (show (!nm.isA && !nm.tail.isNil) = true from by rw [show (!nm.isA) = true from h3, h4]; rfl)])
  refine w_eq' fun e3 => ?_
  have e3' : ¬ ((!nm.isA && !nm.tail.isNil) = true) := fun q => by rw [e3] at q; cases q
  have val : errT p ty nm l = (l.find? fun t => !t.isA).map fun t => .ty "atom" t.py := by unfold errT; rw [if_neg e1, if_neg e2, if_neg e3']
  refine ss_cut (fun D₁ => (l.find? fun t => !t.isA) = none ∧ D₁ = ⟨[("self", some (.v (.ref X.o))), ("priority_term", none), ("type_term", none), ("name_term", none), ("items", none), ("item", none)], sysRs prog w B X O T G a l⟩) ?_ ?_
  rotate_left
  · refine w_eq' fun e => ?_
    exact ss_nil ⟨sysRs prog w B X O T G a l, [], [], .refl _, rfl, by rw [val, e]; rfl, rfl, rfl, rfl⟩
  refine s_for (e_loc (i := 4) (by rfl) ?_) (EX.passes OO)
  refine oi_list (i := 9) (by rfl) fun I => ⟨srcList prog C I a (tmsA l), rfl, fun k D' => ((l.take k).find? fun t => !t.isA) = none ∧ D' = ⟨[("self", some (.v (.ref X.o))), ("priority_term", none), ("type_term", none), ("name_term", none), ("items", none), ("item", none)], sysRs prog w B X O T G a l⟩, ?_, ⟨_, to_of, rfl, rfl⟩, ?_, ?_⟩
  · rintro k _ ⟨_, rfl⟩ r hr
    rw [List.mem_singleton.mp hr]
    exact List.mem_append_right _ (List.mem_append_right _ (.head _))
  rotate_left
  · refine w_eq' fun e => ?_
    refine ⟨_, fun _ d => d, ?_, rfl⟩
    rwa [show (srcList prog C I a (tmsA l)).l.length = l.length from by simp [srcList], List.take_length] at e
  rintro k x _ hx ⟨e, rfl⟩
  obtain ⟨u, hu, rfl⟩ : ∃ u, l[k]? = some u ∧ x = .d u.py := by
    simp only [srcList, List.getElem?_map, Option.map_eq_some_iff] at hx
    obtain ⟨u, h1, rfl⟩ := hx
    exact ⟨u, h1, rfl⟩
  have tk : l.take (k + 1) = l.take k ++ [u] := by rw [List.take_add_one, hu]; rfl
  refine as_name (i := 5) (by rfl) ?_
  refine ss_cons <| s_if <| b_cmp <| e_sub <| e_loc (i := 5) (by rfl) <| e_int <| i_tm (k := 0) u.fld0 <| e_str <| o_tagNe ⟨_, rfl, fun h5 => ?_, fun h5 => ?_⟩
  · refine ss_cons <| s_raise <| e_fcall 200 <| l_cons <| e_attr <| e_loc (i := 0) (by rfl) <| o_attr (i := 0) (by rfl) (by rfl) <| l_cons <| e_str <| l_cons <| e_loc (i := 5) (by rfl) <| l_nil <| ol_f (fn_typeErr B T G "atom" u hT hG) [4, 5, 6, 7, 8] ?_
    exact erEnd B X O T G a l (junk := [_]) (by
      rw [val]
      have : l = (l.take k ++ [u]) ++ l.drop (k + 1) := by rw [← tk]; exact (List.take_append_drop _ _).symm
      rw [this, List.find?_append, List.find?_append, e]
      have h5' : (!u.isA) = true := h5
      simp [h5'])
  · refine ss_nil <| ss_nil ⟨_, to_of, ?_, rfl⟩
    rw [tk, List.find?_append, e]
    have h5' : (!u.isA) = false := h5
    simp [h5']
end
end Mine
end
section
open PySem PySem.W
set_option maxRecDepth 100000
namespace Mine
noncomputable def ref1 (pr : Int) (ty : Str) (n : Nat) : Bool := (n == 8) && (!isKind ty "infix" || (decide (0 < pr) && decide (pr ≤ 1000)))
noncomputable def ref2 (O : Ops) (pr : Int) (ty : Str) (n : Nat) : Bool := ref1 pr ty n || (decide (0 < pr) && isKind ty "infix" && (at_ O.Q n).isSome)
noncomputable def ref3 (O : Ops) (pr : Int) (ty : Str) (n : Nat) : Bool := ref2 O pr ty n || (decide (0 < pr) && isKind ty "postfix" && (at_ O.I n).isSome)
noncomputable def barC (O : Ops) (pr : Int) (ty : Str) (n : Nat) : Option Str :=
  if n = 7 then some "modify" else if n = 0 ∨ n = 2 then some "create" else if ref3 O pr ty n then some "create" else none
noncomputable def errP (O : Ops) (pr : Int) (ty : Str) (n : Nat) : Option Er := (barC O pr ty n).map fun a => .perm a "operator" (Tm.a n).py
theorem eqv_nat (n m : Nat) : (PyData.int n).eqv (.int m) = (n == m) := by
  rw [show (PyData.int n).eqv (.int m) = ((n : Int) == (m : Int)) from by simp only [PyData.eqv]]
  by_cases h : n = m
  · subst h; rw [beq_self_eq_true, beq_self_eq_true]
  · have : ¬ (n : Int) = m := by omega
    rw [beq_false_of_ne this, beq_false_of_ne h]
section
variable {prog : Program} {w : World}
theorem e_and {C : Cx w} {E : Value → Shared → Prop} {D : DS} {env : Env} {pos : Pos} {x y : Expr} {rest : List Expr} {Q : AV → DS → Prop}
    (h : EV prog w C E (eval x env) D (fun a D₁ => ∃ b, a = .d (.bool b) ∧ (b = false → Q (.d (.bool false)) D₁) ∧ (b = true → EV prog w C E (eval (.BoolOp .And (y :: rest) pos) env) D₁ Q))) : EV prog w C E (eval (.BoolOp .And (x :: y :: rest) pos) env) D Q := fun s d => by
  refine PyProof.Rows.BoolOp_and (wpAny_mono (h s d) (fun v s₁ p => ?_) fun _ _ x => x)
  obtain ⟨n, a, D₁, d₁, r, b, rfl, h1, h2⟩ := p
  rw [r.bool_]
  refine wpAny_truthy_bool ?_
  cases b with
  | false => exact ⟨n, _, D₁, d₁, .d (.bool _), h1 rfl⟩
  | true => exact wpAny_mono (h2 rfl s₁ d₁) (fun _ _ z => z.after n) fun _ _ x => x
set_option maxHeartbeats 4000000
variable (B : BA) (X : OA) (O : Ops) (T : List Str) (G : List (Int × Int)) (a : Addr) (l : List Tm)
theorem fn_checkPerm (pr : Int) (ty : Str) (n : Nat) (hty : SeqAt.shaped (.str ty) = true) (hT : T.length ≤ 4000) (hG : G.length ≤ 4000) :
    FnX prog w (.ref 344) 5 [.v (.ref X.o), .d (.int pr), .d (.str ty), .d (.int n)] (sysRs prog w B X O T G a l) (OkX prog w B X O T G a l (errP O pr ty n)) (ErX prog w B X O T G a l (errP O pr ty n)) := by
  refine fnX_body ["self", "priority", "type_text", "a"] ["kind", "refused"] (by rfl) (by rfl) (by kernel_rfl) ?_ (by rfl) (by decide) (by decide) (by decide) ?_ (by rfl) (by rfl) (by rfl)
  · intro vals h
    obtain ⟨a, b, c, d, rfl⟩ := len4 h
    rfl
  intro C hC ho OO
  refine ss_cons <| s_if <| b_cmp <| e_loc (i := 3) (by rfl) <| e_glob (a := .d (.int (7 : Nat))) (by rfl) globInt <| o_eq (by rfl) (by rfl) ?_
  rw [eqv_nat]
  refine ⟨_, rfl, fun h1 => ?_, fun h1 => ?_⟩
  · have hn : n = 7 := by simpa using h1
    refine ss_cons <| s_raise <| e_fcall 214 <| l_cons <| e_attr <| e_loc (i := 0) (by rfl) <| o_attr (i := 0) (by rfl) (by rfl) <| l_cons <| e_str <| l_cons <| e_str <| l_cons <| e_fcall 165 <| l_cons <| e_loc (i := 3) (by rfl) <| l_nil <| ol_f (fn_atomTerm n) [] ?_
    refine w_x3 ?_
    refine l_nil <| ol_f (fn_permErr B T G "modify" "operator" (.a n) hT hG) [4, 5, 6, 7, 8] ?_
    exact erEnd B X O T G a l (junk := []) (by unfold errP barC; rw [if_pos hn]; rfl)
  have n7 : n ≠ 7 := by simpa using h1
  refine ss_nil <| ss_cons <| s_if <| b_bool <| b_or <| b_cmp <| e_loc (i := 3) (by rfl) <| e_glob (a := .d (.int (0 : Nat))) (by rfl) globInt <| o_eq (by rfl) (by rfl) ?_
  rw [eqv_nat]
  refine ⟨_, rfl, fun h2 => ⟨fun _ => ?_, fun e => absurd e.symm Bool.false_ne_true⟩, fun h2 => ?_⟩
  · have hn : n = 0 := by simpa using h2
    refine ss_cons <| s_raise <| e_fcall 214 <| l_cons <| e_attr <| e_loc (i := 0) (by rfl) <| o_attr (i := 0) (by rfl) (by rfl) <| l_cons <| e_str <| l_cons <| e_str <| l_cons <| e_fcall 165 <| l_cons <| e_loc (i := 3) (by rfl) <| l_nil <| ol_f (fn_atomTerm n) [] ?_
    refine w_x3 ?_
    refine l_nil <| ol_f (fn_permErr B T G "create" "operator" (.a n) hT hG) [4, 5, 6, 7, 8] ?_
    exact erEnd B X O T G a l (junk := []) (by unfold errP barC; rw [if_neg n7, if_pos (.inl hn)]; rfl)
  have n0 : n ≠ 0 := by simpa using h2
  refine b_or <| b_cmp <| e_loc (i := 3) (by rfl) <| e_glob (a := .d (.int (2 : Nat))) (by rfl) globInt <| o_eq (by rfl) (by rfl) ?_
  rw [eqv_nat]
  refine ⟨_, rfl, fun h3 => ⟨fun _ => ?_, fun e => absurd e.symm Bool.false_ne_true⟩, fun h3 => ?_⟩
  · have hn : n = 2 := by simpa using h3
    refine ss_cons <| s_raise <| e_fcall 214 <| l_cons <| e_attr <| e_loc (i := 0) (by rfl) <| o_attr (i := 0) (by rfl) (by rfl) <| l_cons <| e_str <| l_cons <| e_str <| l_cons <| e_fcall 165 <| l_cons <| e_loc (i := 3) (by rfl) <| l_nil <| ol_f (fn_atomTerm n) [] ?_
    refine w_x3 ?_
    refine l_nil <| ol_f (fn_permErr B T G "create" "operator" (.a n) hT hG) [4, 5, 6, 7, 8] ?_
    exact erEnd B X O T G a l (junk := []) (by unfold errP barC; rw [if_neg n7, if_pos (.inr hn)]; rfl)
  have n2 : n ≠ 2 := by simpa using h3
  refine b_or_nil ⟨fun e => absurd e Bool.false_ne_true, fun _ => ss_nil ?_⟩
  have val : barC O pr ty n = if ref3 O pr ty n then some ("create" : Str) else none := by simp [barC, n7, n0, n2]
  refine ss_cons <| s_assign (i := 4) <| e_fcall 231 <| l_cons <| e_loc (i := 2) (by rfl) <| l_nil <| ol_f (fn_fixity ty hty) [] ?_
  refine w_x3 ?_
  refine ⟨⟨_, by rfl⟩, ?_⟩
  refine ss_cons <| s_assign (i := 5) <| e_bool ⟨⟨_, by rfl⟩, ?_⟩
  let V : Bool → DS := fun b => ⟨[("self", some (.v (.ref X.o))), ("priority", some (.d (.int pr))), ("type_text", none), ("a", some (.d (.int n))), ("kind", some (.d (fixD ty))), ("refused", some (.d (.bool b)))], sysRs prog w B X O T G a l⟩
  refine ss_cut (fun D₁ => D₁ = V (ref1 pr ty n)) ?_ ?_
  · refine s_if <| b_cmp <| e_loc (i := 3) (by rfl) <| e_glob (a := .d (.int (8 : Nat))) (by rfl) globInt <| o_eq (by rfl) (by rfl) ?_
    rw [eqv_nat]
    refine ⟨_, rfl, fun h4 => ?_, fun h4 => ?_⟩
    rotate_left
    · exact ss_nil ⟨V false, to_of, by unfold ref1; rw [h4]; rfl⟩
    refine ss_cons <| s_assign (i := 5) <| e_or <| e_cmp <| e_loc (i := 4) (by rfl) <| e_str <| o_ne (fix_shaped ty) (by decide +kernel) ⟨!isKind ty "infix", rfl, fun h5 => ⟨⟨_, by rfl⟩, ?_⟩, fun h5 => ?_⟩
    · exact ss_nil ⟨V true, to_of, by unfold ref1; rw [h4, h5]; rfl⟩
    refine e_bool1 <| e_and <| e_cmp <| e_loc (i := 1) (by rfl) <| e_int <| o_gt ⟨_, rfl, fun h6 => ⟨⟨_, by rfl⟩, ?_⟩, fun h6 => ?_⟩
    · exact ss_nil ⟨V false, to_of, by unfold ref1; rw [h4, h5, h6]; rfl⟩
    refine e_bool1 <| e_cmp <| e_loc (i := 1) (by rfl) <| e_glob (a := .d (.int 1000)) (by rfl) globInt <| o_le ⟨⟨_, by rfl⟩, ?_⟩
    exact ss_nil ⟨V (decide (pr ≤ 1000)), to_of, by unfold ref1; rw [h4, h5, h6]; rfl⟩
  refine w_eq ?_
  refine ss_cut (fun D₁ => D₁ = V (ref2 O pr ty n)) ?_ ?_
  · refine s_if <| b_bool <| b_and <| b_cmp <| e_loc (i := 1) (by rfl) <| e_int <| o_gt ⟨_, rfl, fun h6 => ?_, fun h6 => ⟨fun e => absurd e Bool.false_ne_true, fun _ => ss_nil ⟨V (ref1 pr ty n), to_of, by unfold ref2; rw [h6]; simp⟩⟩⟩
    refine b_and <| b_cmp <| e_loc (i := 4) (by rfl) <| e_str <| o_eq (fix_shaped ty) (by decide +kernel) ⟨isKind ty "infix", rfl, fun h7 => ?_, fun h7 => ⟨fun e => absurd e Bool.false_ne_true, fun _ => ss_nil ⟨V (ref1 pr ty n), to_of, by unfold ref2; rw [h7]; simp⟩⟩⟩
    refine b_and <| b_cmp <| e_loc (i := 3) (by rfl) <| e_attr <| e_loc (i := 0) (by rfl) <| o_attr (i := 0) (by rfl) (by rfl) <| o_inD (plI prog w) (k := (n : Int)) (i := 3) (by rfl) ?_
    rw [some_tb]
    refine ⟨_, rfl, fun h8 => ?_, fun h8 => ⟨fun e => absurd e Bool.false_ne_true, fun _ => ss_nil ⟨V (ref1 pr ty n), to_of, by unfold ref2; rw [h8]; simp⟩⟩⟩
    refine b_and_nil ⟨fun _ => ?_, fun e => absurd e.symm Bool.false_ne_true⟩
    refine ss_cons <| s_assign (i := 5) <| e_bool ⟨⟨_, by rfl⟩, ?_⟩
    exact ss_nil ⟨V true, to_of, by unfold ref2; rw [h6, h7, h8]; simp⟩
  refine w_eq ?_
  refine ss_cut (fun D₁ => D₁ = V (ref3 O pr ty n)) ?_ ?_
  · refine s_if <| b_bool <| b_and <| b_cmp <| e_loc (i := 1) (by rfl) <| e_int <| o_gt ⟨_, rfl, fun h6 => ?_, fun h6 => ⟨fun e => absurd e Bool.false_ne_true, fun _ => ss_nil ⟨V (ref2 O pr ty n), to_of, by unfold ref3; rw [h6]; simp⟩⟩⟩
    refine b_and <| b_cmp <| e_loc (i := 4) (by rfl) <| e_str <| o_eq (fix_shaped ty) (by decide +kernel) ⟨isKind ty "postfix", rfl, fun h7 => ?_, fun h7 => ⟨fun e => absurd e Bool.false_ne_true, fun _ => ss_nil ⟨V (ref2 O pr ty n), to_of, by unfold ref3; rw [h7]; simp⟩⟩⟩
    refine b_and <| b_cmp <| e_loc (i := 3) (by rfl) <| e_attr <| e_loc (i := 0) (by rfl) <| o_attr (i := 0) (by rfl) (by rfl) <| o_inD (plI prog w) (k := (n : Int)) (i := 2) (by rfl) ?_
    rw [some_tb]
    refine ⟨_, rfl, fun h8 => ?_, fun h8 => ⟨fun e => absurd e Bool.false_ne_true, fun _ => ss_nil ⟨V (ref2 O pr ty n), to_of, by unfold ref3; rw [h8]; simp⟩⟩⟩
    refine b_and_nil ⟨fun _ => ?_, fun e => absurd e.symm Bool.false_ne_true⟩
    refine ss_cons <| s_assign (i := 5) <| e_bool ⟨⟨_, by rfl⟩, ?_⟩
    exact ss_nil ⟨V true, to_of, by unfold ref3; rw [h6, h7, h8]; simp⟩
  refine w_eq ?_
  refine ss_cons <| s_if <| b_val <| e_loc (i := 5) (by rfl) <| t_bool ⟨fun h9 => ?_, fun h9 => ?_⟩
  · refine ss_cons <| s_raise <| e_fcall 214 <| l_cons <| e_attr <| e_loc (i := 0) (by rfl) <| o_attr (i := 0) (by rfl) (by rfl) <| l_cons <| e_str <| l_cons <| e_str <| l_cons <| e_fcall 165 <| l_cons <| e_loc (i := 3) (by rfl) <| l_nil <| ol_f (fn_atomTerm n) [] ?_
    refine w_x3 ?_
    refine l_nil <| ol_f (fn_permErr B T G "create" "operator" (.a n) hT hG) [4, 5, 6, 7, 8] ?_
    exact erEnd B X O T G a l (junk := []) (by unfold errP; rw [val, h9]; rfl)
  · exact ss_nil <| ss_nil ⟨sysRs prog w B X O T G a l, [], [], .refl _, rfl, by unfold errP; rw [val, h9]; rfl, rfl, rfl, rfl⟩
end
end Mine
end
section
open PySem PySem.W
set_option maxRecDepth 100000
namespace Mine
noncomputable def Tm.num : Tm → Nat
  | .a n => n
  | _ => 0
theorem Tm.num_snd {t : Tm} (h : t.isA = true) : t.snd = (t.num : Int) := by
  cases t with
  | a n => rfl
  | v k => exact absurd h (by show ¬ (("v" : Str) == "a") = true; decide)
  | i k => exact absurd h (by show ¬ (("i" : Str) == "a") = true; decide)
  | s1 k => exact absurd h (by show ¬ (("s" : Str) == "a") = true; decide)
  | dot x y => exact absurd h (by show ¬ (("s" : Str) == "a") = true; decide)
noncomputable def declO (O : Ops) (pr : Int) (tt : Str) (l : List Tm) : Ops := l.foldl (fun O t => addOp O pr tt (t.num : Nat)) O
/-- what is refused, behind the types -/
noncomputable def errD (O : Ops) (T : List Str) (p ty nm : Tm) : Option Er :=
  match errI p ty nm (namesOf nm) with
  | some e => some e
  | none => match errT p ty nm (namesOf nm) with
    | some e => some e
    | none =>
      if p.snd < 0 ∨ 1200 < p.snd then some (.dom "operator_priority" p.py)
      else if isNoneD (fixD (T.getD ty.num "")) then some (.dom "operator_specifier" ty.py)
      else (namesOf nm).findSome? fun t => errP O p.snd (T.getD ty.num "") t.num
theorem declO_snoc (O : Ops) (pr : Int) (tt : Str) (l : List Tm) (t : Tm) : declO O pr tt (l ++ [t]) = addOp (declO O pr tt l) pr tt (t.num : Nat) := by unfold declO; rw [List.foldl_append]; rfl
theorem declO_small : ∀ (l : List Tm) (O : Ops) (pr : Int) (tt : Str) (n : Nat), O.Small n → (declO O pr tt l).Small (n + l.length)
  | [], O, pr, tt, n, h => h
  | t :: l, O, pr, tt, n, h => by
    have ih := declO_small l (addOp O pr tt (t.num : Nat)) pr tt (n + 1) (addOp_small h ..)
    show (declO (addOp O pr tt (t.num : Nat)) pr tt l).Small _
    have e : n + 1 + l.length = n + (t :: l).length := by simp; omega
    rw [← e]; exact ih
theorem errT_none {p ty nm : Tm} {l : List Tm} (h : errT p ty nm l = none) : p.isI = true ∧ ty.isA = true ∧ ∀ t ∈ l, t.isA = true := by
  unfold errT at h
  split at h
  · cases h
  · split at h
    · cases h
    · split at h
      · cases h
      · rename_i h1 h2 h3
        refine ⟨by simpa using h1, by simpa using h2, fun t ht => ?_⟩
        rw [Option.map_eq_none_iff, List.find?_eq_none] at h
        simpa using h t ht
section
variable {prog : Program} {w : World}
set_option maxHeartbeats 4000000
variable (B : BA) (X : OA) (O : Ops) (T : List Str) (G : List (Int × Int))
noncomputable abbrev decRs (prog : Program) (w : World) (B : BA) (X : OA) (O : Ops) (T : List Str) (G : List (Int × Int)) : List Reg := opsRs prog w B X O ++ bookRs prog w B T G
noncomputable def DeX (prog : Program) (w : World) (B : BA) (X : OA) (O : Ops) (T : List Str) (G : List (Int × Int)) (e : Option Er) (ball : AV) (rs' : List Reg) : Prop :=
  ∃ er, e = some er ∧ ball = .d (ballOf (er.out T G).1) ∧ rs' = decRs prog w B X O (er.out T G).2.1 (er.out T G).2.2
variable {B X O T G} in
theorem deX_of {a : Addr} {l : List Tm} {e e' : Option Er} (he : ∀ er, e' = some er → e = some er) : ∀ ball rs', ErX prog w B X O T G a l e' ball rs' → FnEndX (decRs prog w B X O T G) (DeX prog w B X O T G e) ball (setAll (sysRs prog w B X O T G a l) [0, 1, 2, 3, 4, 5, 6, 7, 8, 9] rs') := by
  rintro ball _ ⟨er, h1, h2, rfl⟩
  exact ⟨decRs prog w B X O (er.out T G).2.1 (er.out T G).2.2, [one prog w a (.list (tmsA l))], .refl _, rfl, er, he er h1, h2, rfl⟩
variable {B X O T G} in
theorem deX_of' {a : Addr} {l : List Tm} {junk : List Reg} {e e' : Option Er} (he : ∀ er, e' = some er → e = some er) : ∀ ball rs', ErX prog w B X O T G a l e' ball rs' → FnEndX (decRs prog w B X O T G) (DeX prog w B X O T G e) ball (setAll (sysRs prog w B X O T G a l ++ junk) [0, 1, 2, 3, 4, 5, 6, 7, 8, 9] rs') := by
  rintro ball _ ⟨er, h1, h2, rfl⟩
  exact ⟨decRs prog w B X O (er.out T G).2.1 (er.out T G).2.2, one prog w a (.list (tmsA l)) :: junk, .refl _, rfl, er, he er h1, h2, rfl⟩
theorem fn_declare (p ty nm : Tm) (hp : p.Fit) (hy : ty.Fit) (hn : nm.Fit) (hT : T.length ≤ 4000) (hG : G.length ≤ 4000) (hO : O.Small 4000) (hs : ∀ x ∈ T, SeqAt.shaped (.str x) = true) (hty : ty.isA = true → ty.num < T.length) :
    FnX prog w (.ref 316) 6 [.v (.ref X.o), .d p.py, .d ty.py, .d nm.py] (decRs prog w B X O T G)
      (fun av rs' nw => errD O T p ty nm = none ∧ av = .d .none ∧ rs' = decRs prog w B X (declO O p.snd (T.getD ty.num "") (namesOf nm)) T G ∧ nw = []) (DeX prog w B X O T G (errD O T p ty nm)) := by
  have hl : (namesOf nm).length ≤ 60 := by
    have := hn.len
    cases nm with
    | dot x y => show (y.items.length + 1) ≤ 60; rw [y.items_length]; have : y.len + 1 ≤ 50 := this; omega
    | _ => simp [namesOf]
  refine fnX_body ["self", "priority_term", "type_term", "name_term"] ["items", "priority", "type_text", "item"] (by rfl) (by rfl) (by kernel_rfl) ?_ (by rfl) (by decide) (by decide) (by decide) ?_ (by rfl) (by rfl) (by rfl)
  · intro vals h
    obtain ⟨a, b, c, d, rfl⟩ := len4 h
    rfl
  intro C hC ho OO
  refine ss_cons <| s_assign (i := 4) <| e_meth <| e_loc (i := 0) (by rfl) ⟨_, gm_inst 323 (i := 0) (by rfl), kp_K (by kernel_rfl), l_cons <| e_loc (i := 3) (by rfl) <| l_nil <| ol_f (fn_namesOf _ nm hn) [] ?_⟩
  rintro _ _ _ ⟨a, rfl, rfl, rfl⟩
  refine ⟨⟨_, by rfl⟩, ?_⟩
  let V0 : DS := ⟨[("self", some (.v (.ref X.o))), ("priority_term", some (.d p.py)), ("type_term", some (.d ty.py)), ("name_term", some (.d nm.py)), ("items", some (.v (.ref a))), ("priority", none), ("type_text", none), ("item", none)], sysRs prog w B X O T G a (namesOf nm)⟩
  refine GV.less (D' := V0) (fun s d => d) ?_
  refine ss_cons <| s_expr <| e_meth <| e_loc (i := 0) (by rfl) ⟨_, gm_inst 330 (i := 0) (by rfl), kp_K (by kernel_rfl), ?_⟩
  refine l_cons <| e_loc (i := 1) (by rfl) <| l_cons <| e_loc (i := 2) (by rfl) <| l_cons <| e_loc (i := 3) (by rfl) <| l_cons <| e_loc (i := 4) (by rfl) <| l_nil ?_
  refine ol_fX (fn_checkInst B X O T G a (namesOf nm) p ty nm hp hy hn hl hT) [0, 1, 2, 3, 4, 5, 6, 7, 8, 9] OO ?_ (deX_of fun er h => by unfold errD; rw [h])
  rintro _ _ _ ⟨eI, rfl, rfl, rfl⟩
  refine GV.less (D' := V0) (fun s d => d) ?_
  refine ss_cons <| s_expr <| e_meth <| e_loc (i := 0) (by rfl) ⟨_, gm_inst 337 (i := 0) (by rfl), kp_K (by kernel_rfl), ?_⟩
  refine l_cons <| e_loc (i := 1) (by rfl) <| l_cons <| e_loc (i := 2) (by rfl) <| l_cons <| e_loc (i := 3) (by rfl) <| l_cons <| e_loc (i := 4) (by rfl) <| l_nil ?_
  refine ol_fX (fn_checkTypes B X O T G a (namesOf nm) p ty nm hp hy hn hl hT hG) [0, 1, 2, 3, 4, 5, 6, 7, 8, 9] OO ?_ (deX_of fun er h => by unfold errD; rw [eI]; simp only [h])
  rintro _ _ _ ⟨eT, rfl, rfl, rfl⟩
  refine GV.less (D' := V0) (fun s d => d) ?_
  obtain ⟨pI, tA, iA⟩ := errT_none eT
  have tlt := hty tA
  obtain ⟨tt, htt⟩ : ∃ tt, T[ty.num]? = some tt := ⟨_, List.getElem?_eq_getElem tlt⟩
  have tsh := hs tt (List.mem_of_getElem? htt)
  have gD : T.getD ty.num "" = tt := by simp [htt]
  have val : errD O T p ty nm = if p.snd < 0 ∨ 1200 < p.snd then some (.dom "operator_priority" p.py) else if isNoneD (fixD tt) then some (.dom "operator_specifier" ty.py) else (namesOf nm).findSome? fun t => errP O p.snd tt t.num := by
    unfold errD; rw [eI]; simp only; rw [eT]; simp only; rw [gD]
  rw [gD]
  refine ss_cons <| s_assign (i := 5) <| e_sub <| e_loc (i := 1) (by rfl) <| e_int <| i_tm (k := 1) p.fld1 ⟨⟨_, by rfl⟩, ?_⟩
  refine ss_cons <| s_assign (i := 6) <| e_meth <| e_attr <| e_loc (i := 0) (by rfl) <| o_attr (i := 0) (by rfl) (by rfl) ⟨_, gm_inst 95 (i := 4) (by rfl), kp_K (by kernel_rfl), ?_⟩
  refine l_cons <| e_sub <| e_loc (i := 2) (by rfl) <| e_int <| i_tm (k := 1) ty.fld1 ?_
  rw [Tm.num_snd tA]
  refine l_nil <| ol_f (fn_text B T G ty.num tt (by omega) htt) [4, 5, 6, 7, 8] ?_
  refine w_x3 ?_
  refine ⟨⟨_, by rfl⟩, ?_⟩
  let V : Ops → DS := fun O' => ⟨[("self", some (.v (.ref X.o))), ("priority_term", none), ("type_term", some (.d ty.py)), ("name_term", none), ("items", some (.v (.ref a))), ("priority", some (.d (.int p.snd))), ("type_text", some (.d (.str tt))), ("item", none)], sysRs prog w B X O' T G a (namesOf nm)⟩
  refine ss_cut (fun D₁ => ¬ (p.snd < 0 ∨ 1200 < p.snd) ∧ D₁ = V O) ?_ ?_
  · refine s_if <| b_bool <| b_or <| b_cmp <| e_loc (i := 5) (by rfl) <| e_int <| o_lt ⟨_, rfl, fun h1 => ⟨fun _ => ?_, fun e => absurd e.symm Bool.false_ne_true⟩, fun h1 => ?_⟩
    · refine ss_cons <| s_raise <| e_fcall 207 <| l_cons <| e_attr <| e_loc (i := 0) (by rfl) <| o_attr (i := 0) (by rfl) (by rfl) <| l_cons <| e_str <| l_cons <| e_loc (i := 1) (by rfl) <| l_nil <| ol_f (fn_domErr B T G "operator_priority" p hT hG) [4, 5, 6, 7, 8] ?_
      rintro _ _ _ ⟨⟨e', da, t, rfl, rfl⟩, rfl⟩
      exact ⟨e', da, t, _, sysRs prog w B X O (Er.out T G (.dom "operator_priority" p.py)).2.1 (Er.out T G (.dom "operator_priority" p.py)).2.2 a (namesOf nm), rfl, rfl, decRs prog w B X O (Er.out T G (.dom "operator_priority" p.py)).2.1 (Er.out T G (.dom "operator_priority" p.py)).2.2, [_], .refl _, rfl, _, by rw [val, if_pos (.inl (of_decide_eq_true h1))], rfl, rfl⟩
    refine b_or <| b_cmp <| e_loc (i := 5) (by rfl) <| e_glob (a := .d (.int 1200)) (by rfl) globInt <| o_gt ⟨_, rfl, fun h2 => ⟨fun _ => ?_, fun e => absurd e.symm Bool.false_ne_true⟩, fun h2 => ?_⟩
    · refine ss_cons <| s_raise <| e_fcall 207 <| l_cons <| e_attr <| e_loc (i := 0) (by rfl) <| o_attr (i := 0) (by rfl) (by rfl) <| l_cons <| e_str <| l_cons <| e_loc (i := 1) (by rfl) <| l_nil <| ol_f (fn_domErr B T G "operator_priority" p hT hG) [4, 5, 6, 7, 8] ?_
      rintro _ _ _ ⟨⟨e', da, t, rfl, rfl⟩, rfl⟩
      exact ⟨e', da, t, _, sysRs prog w B X O (Er.out T G (.dom "operator_priority" p.py)).2.1 (Er.out T G (.dom "operator_priority" p.py)).2.2 a (namesOf nm), rfl, rfl, decRs prog w B X O (Er.out T G (.dom "operator_priority" p.py)).2.1 (Er.out T G (.dom "operator_priority" p.py)).2.2, [_], .refl _, rfl, _, by rw [val, if_pos (.inr (of_decide_eq_true h2))], rfl, rfl⟩
    refine b_or_nil ⟨fun e => absurd e Bool.false_ne_true, fun _ => ss_nil ⟨V O, to_of, ?_, rfl⟩⟩
    rintro (h | h)
    · exact of_decide_eq_false h1 h
    · exact of_decide_eq_false h2 h
  refine w_eq' fun h0 => ?_
  rw [if_neg h0] at val
  refine ss_cut (fun D₁ => isNoneD (fixD tt) = false ∧ D₁ = V O) ?_ ?_
  · refine s_if <| b_cmp <| e_fcall 231 <| l_cons <| e_loc (i := 6) (by rfl) <| l_nil <| ol_f (fn_fixity tt tsh) [] ?_
    refine w_x3 ?_
    refine e_none <| o_isNone ⟨_, rfl, fun h1 => ?_, fun h1 => ss_nil ⟨V O, to_of, h1, rfl⟩⟩
    refine ss_cons <| s_raise <| e_fcall 207 <| l_cons <| e_attr <| e_loc (i := 0) (by rfl) <| o_attr (i := 0) (by rfl) (by rfl) <| l_cons <| e_str <| l_cons <| e_loc (i := 2) (by rfl) <| l_nil <| ol_f (fn_domErr B T G "operator_specifier" ty hT hG) [4, 5, 6, 7, 8] ?_
    rintro _ _ _ ⟨⟨e', da, t, rfl, rfl⟩, rfl⟩
    exact ⟨e', da, t, _, sysRs prog w B X O (Er.out T G (.dom "operator_specifier" ty.py)).2.1 (Er.out T G (.dom "operator_specifier" ty.py)).2.2 a (namesOf nm), rfl, rfl, decRs prog w B X O (Er.out T G (.dom "operator_specifier" ty.py)).2.1 (Er.out T G (.dom "operator_specifier" ty.py)).2.2, [_], .refl _, rfl, _, by rw [val, if_pos h1], rfl, rfl⟩
  refine w_eq' fun h1 => ?_
  rw [if_neg (by rw [h1]; exact Bool.false_ne_true)] at val
  refine ss_cut (fun D₁ => ((namesOf nm).findSome? fun t => errP O p.snd tt t.num) = none ∧ D₁ = V O) ?_ ?_
  · refine s_for (e_loc (i := 4) (by rfl) ?_) (EX.passes OO)
    refine oi_list (i := 9) (by rfl) fun I => ⟨srcList prog C I a (tmsA (namesOf nm)), rfl, fun k D' => (((namesOf nm).take k).findSome? fun t => errP O p.snd tt t.num) = none ∧ D' = V O, ?_, ⟨_, to_of, rfl, rfl⟩, ?_, ?_⟩
    · rintro k _ ⟨_, rfl⟩ r hr
      rw [List.mem_singleton.mp hr]
      exact List.mem_append_right _ (List.mem_append_right _ (.head _))
    rotate_left
    · refine w_eq' fun e => ?_
      refine ⟨_, fun _ d => d, ?_, rfl⟩
      rwa [show (srcList prog C I a (tmsA (namesOf nm))).l.length = (namesOf nm).length from by simp [srcList], List.take_length] at e
    rintro k x _ hx ⟨e, rfl⟩
    obtain ⟨u, hu, rfl⟩ : ∃ u, (namesOf nm)[k]? = some u ∧ x = .d u.py := by
      simp only [srcList, List.getElem?_map, Option.map_eq_some_iff] at hx
      obtain ⟨u, h1, rfl⟩ := hx
      exact ⟨u, h1, rfl⟩
    have tk : (namesOf nm).take (k + 1) = (namesOf nm).take k ++ [u] := by rw [List.take_add_one, hu]; rfl
    have uA := iA u (List.mem_of_getElem? hu)
    refine as_name (i := 7) (by rfl) ?_
    refine ss_cons <| s_expr <| e_meth <| e_loc (i := 0) (by rfl) ⟨_, gm_inst 344 (i := 0) (by rfl), kp_K (by kernel_rfl), ?_⟩
    refine l_cons <| e_loc (i := 5) (by rfl) <| l_cons <| e_loc (i := 6) (by rfl) <| l_cons <| e_sub <| e_loc (i := 7) (by rfl) <| e_int <| i_tm (k := 1) u.fld1 ?_
    rw [Tm.num_snd uA]
    refine l_nil <| ol_fX (fn_checkPerm B X O T G a (namesOf nm) p.snd tt u.num tsh hT hG) [0, 1, 2, 3, 4, 5, 6, 7, 8, 9] OO ?_ (deX_of' (junk := [_]) fun er h => ?_)
    · rintro _ _ _ ⟨eP, rfl, rfl, rfl⟩
      refine ss_nil ⟨V O, to_of, ?_, rfl⟩
      rw [tk, List.findSome?_append, e]
      simp [eP]
    · rw [val]
      have : namesOf nm = ((namesOf nm).take k ++ [u]) ++ (namesOf nm).drop (k + 1) := by rw [← tk]; exact (List.take_append_drop _ _).symm
      rw [this, List.findSome?_append, List.findSome?_append, e]
      simp [h]
  refine w_eq' fun h2 => ?_
  rw [h2] at val
  refine ss_cut (fun D₁ => D₁ = V (declO O p.snd tt (namesOf nm))) ?_ ?_
  rotate_left
  · refine w_eq ?_
    exact ss_nil ⟨decRs prog w B X (declO O p.snd tt (namesOf nm)) T G, [], [_], .refl _, rfl, val, rfl, rfl, rfl⟩
  refine s_for (e_loc (i := 4) (by rfl) ?_) (EX.passes OO)
  refine oi_list (i := 9) (by rfl) fun I => ⟨srcList prog C I a (tmsA (namesOf nm)), rfl, fun k D' => D' = V (declO O p.snd tt ((namesOf nm).take k)), ?_, ⟨_, to_of, rfl⟩, ?_, ?_⟩
  · rintro k _ rfl r hr
    rw [List.mem_singleton.mp hr]
    exact List.mem_append_right _ (List.mem_append_right _ (.head _))
  rotate_left
  · refine w_eq ?_
    refine ⟨_, fun _ d => d, ?_⟩
    rw [show (srcList prog C I a (tmsA (namesOf nm))).l.length = (namesOf nm).length from by simp [srcList], List.take_length]
  rintro k x _ hx rfl
  obtain ⟨u, hu, rfl⟩ : ∃ u, (namesOf nm)[k]? = some u ∧ x = .d u.py := by
    simp only [srcList, List.getElem?_map, Option.map_eq_some_iff] at hx
    obtain ⟨u, h1, rfl⟩ := hx
    exact ⟨u, h1, rfl⟩
  have tk : (namesOf nm).take (k + 1) = (namesOf nm).take k ++ [u] := by rw [List.take_add_one, hu]; rfl
  have uA := iA u (List.mem_of_getElem? hu)
  have sm : (declO O p.snd tt ((namesOf nm).take k)).Small 5000 := (declO_small _ _ _ _ _ hO).mono (by
    have : ((namesOf nm).take k).length ≤ (namesOf nm).length := by rw [List.length_take]; omega
    omega)
  refine as_name (i := 7) (by rfl) ?_
  refine ss_cons <| s_expr <| e_meth <| e_loc (i := 0) (by rfl) ⟨_, gm_inst 288 (i := 0) (by rfl), kp_K (by kernel_rfl), ?_⟩
  refine l_cons <| e_loc (i := 5) (by rfl) <| l_cons <| e_loc (i := 6) (by rfl) <| l_cons <| e_sub <| e_loc (i := 7) (by rfl) <| e_int <| i_tm (k := 1) u.fld1 ?_
  rw [Tm.num_snd uA]
  refine l_nil <| ol_f (fn_add B X (declO O p.snd tt ((namesOf nm).take k)) p.snd tt (u.num : Nat) tsh sm) [0, 1, 2, 3] ?_
  refine w_x3 ?_
  refine ss_nil ⟨V (addOp (declO O p.snd tt ((namesOf nm).take k)) p.snd tt (u.num : Nat)), to_of, congrArg V (by rw [tk, declO_snoc])⟩
end
end Mine
end
section
open PySem PySem.W
set_option maxRecDepth 100000
namespace Mine
noncomputable abbrev cellR (prog : Program) (w : World) (c : Addr) (o : Option AV) : Reg := one prog w c (.cell o)
section
variable {prog : Program} {w : World} {C : Cx w} {E : Value → Shared → Prop} {D : DS} {env : Env} {pos : Pos}
/-- a name in a cell is read -/
theorem e_cell {i : Nat} {x : Str} {c : Addr} {a : AV} {Q : AV → DS → Prop} (hi : D.rs[i]? = some (cellR prog w c (some a))) (h : Q a D) (hc : env.cells.lookup x = some c := by rfl) (hk : env.scope.kind = .function := by rfl)
    (hl : env.kindOf x = some .cell := by rfl) (hd : (x == ("__debug__" : Str)) = false := by decide) : EV prog w C E (eval (.Name x pos) env) D Q := fun s d => by
  obtain ⟨o, v, h1, h2, u, rfl, r⟩ := (d.regs _ (mem_of_get hi) : RO prog w s.heap c (.cell (some a)))
  exact wpAny_Name (wpAny_loadName_cell hk hl hc ⟨o, h1, h2⟩ (.here d r h)) hd
inductive SetC (prog : Program) (w : World) (i : Nat) (c : Addr) (Q : DS → Prop) (a : AV) (D : DS) : Prop
  | mk (h : ∃ o, D.rs[i]? = some (cellR prog w c o)) (q : Q ⟨D.m, D.rs.set i (cellR prog w c (some a))⟩) : SetC prog w i c Q a D
/-- a name in a cell is stored -/
theorem s_assignC {x : Str} {pos' : Pos} {value : Expr} {i : Nat} {c : Addr} {Q : FL → DS → Prop} (hc : env.cells.lookup x = some c) (h : EV prog w C E (eval value env) D (SetC prog w i c (Q .next)))
    (hs : swapsWith value (some (.Name x pos')) pos.line env = pure false := by rfl) (hk : env.scope.kind = .function := by rfl) (hl : env.kindOf x = some .cell := by rfl) :
    SV prog w C E (exec (.Assign [.Name x pos'] value pos) env) D Q := fun s d =>
  wpAny_Assign_Name (wpAny_mono (h s d) (fun v s₁ p => by
    obtain ⟨n, a, D₁, d₁, r, ⟨o, hi⟩, q⟩ := p
    have x1 : ∃ ob v₀, s₁.heap.get? c = some ob ∧ ob.data = .cell v₀ := by
      have := (d₁.regs _ (mem_of_get hi) : RO prog w s₁.heap c (.cell o))
      cases o with
      | none => obtain ⟨ob, v, h1, h2, _⟩ := this; exact ⟨ob, v, h1, h2⟩
      | some b => obtain ⟨ob, v, h1, h2, _⟩ := this; exact ⟨ob, v, h1, h2⟩
    obtain ⟨ob, v₀, h1, h2⟩ := x1
    have nt : NotTp s₁.heap c := ⟨ob, h1, fun t => by obtain ⟨_, xs, n, e⟩ := t; rw [h2] at e; cases e⟩
    refine wpAny_storeName_cell hk hl hc ⟨ob, h1, h2⟩ fun h' hcell hs' => ?_
    obtain ⟨ob', h3, h4⟩ := hcell
    have st := d₁.upd hi (r' := cellR prog w c (some a)) (tk := s₁.toks) rfl (fun b o q e => (hs'.2 b (by simpa [one] using q)).trans e) (Nat.le_of_eq hs'.1.symm) ⟨ob', some v, h3, h4, v, rfl, r.le (le_same hs' nt)⟩
    exact ⟨n.trans st.1, .next, _, st.2, .next, q⟩) fun _ _ x => x) hs
end
end Mine
end
section
open PySem PySem.W
set_option maxRecDepth 100000
namespace Mine
theorem bindL_ne {kindOf : Str → Option NameKind} {x : Str} : ∀ (binds : List (Str × Value)) (m : Str → Option Value), x ∉ binds.map (·.1) → bindL kindOf binds m x = m x
  | [], _, _ => rfl
  | (n, v) :: r, m, h => by
    simp only [List.map_cons, List.mem_cons, not_or] at h
    unfold bindL
    rw [bindL_ne r _ h.2]
    split
    · exact if_neg h.1
    · rfl
theorem bindL_get {kindOf : Str → Option NameKind} {x : Str} {v : Value} : ∀ (binds : List (Str × Value)) (m : Str → Option Value), (binds.map (·.1)).Nodup → (x, v) ∈ binds → kindOf x = some .local → bindL kindOf binds m x = some v
  | [], _, _, h, _ => by cases h
  | (n, u) :: r, m, nd, h, hk => by
    rw [List.map_cons, List.nodup_cons] at nd
    unfold bindL
    rcases List.mem_cons.mp h with e | h
    · cases e
      rw [bindL_ne r _ nd.1, if_pos hk]
      exact if_pos rfl
    · exact bindL_get r _ nd.2 h hk
theorem bindC_ne {kindOf : Str → Option NameKind} {x : Str} : ∀ (binds : List (Str × Value)) (m : Str → Option Value), x ∉ binds.map (·.1) → bindC kindOf binds m x = m x
  | [], _, _ => rfl
  | (n, v) :: r, m, h => by
    simp only [List.map_cons, List.mem_cons, not_or] at h
    unfold bindC
    rw [bindC_ne r _ h.2]
    split
    · rfl
    · exact if_neg h.1
theorem bindC_get {kindOf : Str → Option NameKind} {x : Str} {v : Value} : ∀ (binds : List (Str × Value)) (m : Str → Option Value), (binds.map (·.1)).Nodup → (x, v) ∈ binds → kindOf x = some .cell → bindC kindOf binds m x = some v
  | [], _, _, h, _ => by cases h
  | (n, u) :: r, m, nd, h, hk => by
    rw [List.map_cons, List.nodup_cons] at nd
    unfold bindC
    rcases List.mem_cons.mp h with e | h
    · cases e
      rw [bindC_ne r _ nd.1, if_neg (by rw [hk]; exact fun e => by cases e)]
      exact if_pos rfl
    · exact bindC_get r _ nd.2 h hk
theorem zip_rel {h : Heap} : ∀ {ps : List Str} {vals : List Value} {args : List AV}, RvL h vals args → ∀ {x : Str} {a : AV}, (x, a) ∈ ps.zip args → ∃ v, (x, v) ∈ ps.zip vals ∧ Rv h v a
  | [], _, _, _, x, a, hm => by simp at hm
  | p :: ps, _, _, .nil, x, a, hm => by simp at hm
  | p :: ps, _, _, .cons (v := v) (a := b) r1 r2, x, a, hm => by
    rw [List.zip_cons_cons] at hm
    rcases List.mem_cons.mp hm with e | hm
    · cases e; exact ⟨v, by rw [List.zip_cons_cons]; exact .head _, r1⟩
    · obtain ⟨u, h1, h2⟩ := zip_rel r2 hm
      exact ⟨u, by rw [List.zip_cons_cons]; exact .tail _ h1, h2⟩
section
variable {prog : Program} {w : World}
noncomputable abbrev cellRs (prog : Program) (w : World) (L : Addr) (cn : List (Str × Nat)) (cv : Str → Option AV) : List Reg := cn.map fun p => cellR prog w (L + 1 + p.2) (cv p.1)
theorem feet_cells {L : Addr} {cn : List (Str × Nat)} {cv : Str → Option AV} : feet (cellRs prog w L cn cv) = cn.map fun p => L + 1 + p.2 := by
  induction cn with
  | nil => rfl
  | cons p cn ih => show feet (cellR prog w (L + 1 + p.2) (cv p.1) :: cellRs prog w L cn cv) = _; rw [feet_cons, ih]; rfl
/-- a def some of whose names are cells -/
theorem fn_bodyC {H : Heap → Prop} {Z : Around → Prop} {f : Addr} {oc : Value} {od : Option Addr} {fd : FuncData} {osl : Array (Option Value)} {body : List Stmt} {n : Nat} {args : List AV} {rs : List Reg} {Q : AV → List Reg → List Reg → Prop} (ps : List Str) (m0 : Lc) (cn : List (Str × Nat)) (cv : Str → Option AV)
    (ho : (KK w).lookup f = some ⟨oc, od, .func fd, osl⟩) (hb : fd.body = .stmts body) (hcd : codeIn (KK w) fd.code fd.qualname = true)
    (hbind : ∀ vals : List Value, vals.length = args.length → bindArgs fd ⟨vals, []⟩ = pure (ps.zip vals)) (hl : ps.length = args.length) (hps : ps.Nodup)
    (hcs : ∀ L, cellsFrom (L + 1) fd.scope.names [] = cn.map fun p => (p.1, L + 1 + p.2)) (hcn : (cn.map (·.2)).Nodup) (hcl : ∀ L : Nat, ∀ p ∈ cn, (cn.map fun p => (p.1, L + 1 + p.2)).lookup p.1 = some (L + 1 + p.2))
    (hkind : ∀ L : Nat, ∀ x ∈ ps, fd.scope.names.lookup x = some .local ∨ (fd.scope.names.lookup x = some .cell ∧ ((cn.map fun p => (p.1, L + 1 + p.2)).lookup x).isSome = true))
    (hm0 : ∀ x a, (x, some a) ∈ m0 → (x, a) ∈ ps.zip args ∧ fd.scope.names.lookup x = some .local) (hm0n : (m0.map (·.1)).Nodup)
    (hcv : ∀ p ∈ cn, ∀ a, cv p.1 = some a → (p.1, a) ∈ ps.zip args ∧ fd.scope.names.lookup p.1 = some .cell) (hclo : fd.closure = [])
    (h : ∀ C : Cx w, C.lv = n → C.own = feet rs → H C.h₁ → (∃ A, Z A ∧ C.A = A.deeper (callEnvC fd C.L f)) → SV prog w C (fun _ _ => False) (execs body (callEnvC fd C.L f)) ⟨m0, rs ++ cellRs prog w C.L cn cv⟩ (FnEnd rs Q))
    (hco : fd.scope.isCoroutine = false) (hgen : fd.scope.isGenerator = false) (hk : fd.scope.kind = .function) :
    ∀ (h₁ : Heap) (A : Around) (s : Shared) (vals : List Value), H h₁ → Pre (w := w) h₁ A (n + 1) rs args s vals → Z A →
    codeAny (model prog w) A (.call (.ref f) ⟨vals, []⟩) (fun r s' => match r with | .ok (.ret v) => FnPost rs Q s v s' | _ => False) s := fun h₁ A s vals hH p hA => by
  have X := p.bs.K.keeps p.base
  have lv : vals.length = args.length := p.vals.length
  refine codeAny_call_cells (fd := fd) (body := body) (binds := ps.zip vals) (by have := p.depth; show _ < 1000; omega) (X _ _ ho) rfl (p.bs.nolimit.keeps p.base) (codeRec_of X hcd) hb (hbind vals lv) hclo
    (fun x hx => ?_) (fun s₁ IC => ?_) hco hgen hk
  · rcases hkind s.heap.objs.size x.1 (List.of_mem_zip hx).1 with q | ⟨q1, q2⟩
    · exact .inl q
    · exact .inr ⟨q1, by rw [hcs]; exact q2⟩
  have zn : ((ps.zip vals).map (·.1)).Nodup := by rw [List.map_fst_zip (by omega)]; exact hps
  obtain ⟨⟨⟨h₀, tk, rfl⟩, hns, hk₁, hab⟩, hcell, hapart, habove⟩ := IC
  let C : Cx w := { h₁ := h₁, bs := p.bs, s₀ := s, own := feet rs, L := s.heap.objs.size, big := p.big, hL := Nat.le_refl _, A := A.deeper (callEnvC fd s.heap.objs.size f), lv := n, handled := p.handled,
                    depth := by have := p.depth; show A.depth + 1 + n ≤ 900; omega, units := by have := p.units; show A.units + 3 + 20 * n ≤ 9000; omega }
  have hcells : (callEnvC fd s.heap.objs.size f).cells = cn.map fun p => (p.1, s.heap.objs.size + 1 + p.2) := hcs _
  rw [hcells] at hcell
  have hns : h₀.Ns s.heap.objs.size (bindL (callEnvC fd s.heap.objs.size f).kindOf (ps.zip vals) fun _ => none) := hns
  have hz : s.heap.objs.size ≤ h₀.objs.size := by obtain ⟨o, _, _, e, _⟩ := hns; exact Nat.le_of_lt (Heap.lt_size e)
  have le : Le s.heap h₀ := .of_keeps hk₁
  have nx : Nxt s { s with heap := h₀, toks := tk } := ⟨le, _, _, rfl⟩
  have den : Den C ⟨m0, rs ++ cellRs prog w s.heap.objs.size cn cv⟩ { s with heap := h₀, toks := tk } := by
    refine ⟨nx, fun a o e => hk₁ a o (p.base a o e), fun a o e _ => hk₁ a o e, hz, ⟨_, hns, hm0n, fun x av hm => ?_⟩, fun r hr => ?_, ?_, fun a ha => ?_⟩
    · obtain ⟨h1, h2⟩ := hm0 x av hm
      obtain ⟨v, h3, h4⟩ := zip_rel p.vals h1
      exact ⟨v, bindL_get _ _ zn h3 h2, h4.le le⟩
    · rcases List.mem_append.mp hr with hr | hr
      · exact r.loc le (fun a _ o e => hk₁ a o e) (p.regs r hr)
      · obtain ⟨q, hq, rfl⟩ := List.mem_map.mp hr
        obtain ⟨o, h1, h2⟩ := hcell q.1 _ (hcl _ q hq)
        refine ⟨o, _, h1, h2, ?_⟩
        cases e : cv q.1 with
        | none => trivial
        | some a =>
          obtain ⟨h3, h4⟩ := hcv q hq a e
          obtain ⟨v, h5, h6⟩ := zip_rel p.vals h3
          exact ⟨v, bindC_get _ _ zn h5 h4, h6.le le⟩
    · show (s.heap.objs.size :: feet (rs ++ cellRs prog w s.heap.objs.size cn cv)).Nodup
      rw [feet_append, feet_cells]
      have lt : ∀ a ∈ feet rs, a < s.heap.objs.size := fun a ha => by
        obtain ⟨r, h1, h2⟩ := mem_feet.mp ha
        exact (r.live (p.regs r h1) _ h2).lt
      refine List.nodup_cons.mpr ⟨fun q => ?_, List.nodup_append.mpr ⟨p.nodup, ?_, fun a ha b hb e => ?_⟩⟩
      · rcases List.mem_append.mp q with q | q
        · exact absurd (lt _ q) (Nat.lt_irrefl _)
        · obtain ⟨z, _, e⟩ := List.mem_map.mp q
          exact absurd (show (s.heap.objs.size + 1 + z.2 : Nat) = s.heap.objs.size from e) (Nat.ne_of_gt (Nat.lt_of_lt_of_le (Nat.lt_succ_self _) (Nat.le_add_right _ _)))
      · have := hcn
        rw [show (cn.map fun p => s.heap.objs.size + 1 + p.2) = (cn.map (·.2)).map (fun k => s.heap.objs.size + 1 + k) from by rw [List.map_map]; rfl]
        exact List.pairwise_map.mpr (this.imp fun {a b} ne e => ne (Nat.add_left_cancel (show s.heap.objs.size + 1 + a = s.heap.objs.size + 1 + b from e)))
      · subst e
        have h1 := lt a ha
        obtain ⟨z, _, e⟩ := List.mem_map.mp hb
        exact absurd (show (a : Nat) < s.heap.objs.size from h1) (Nat.not_lt.mpr (e ▸ Nat.le_of_lt (Nat.lt_of_lt_of_le (Nat.lt_succ_self _) (Nat.le_add_right _ _))))
    · rcases List.mem_cons.mp ha with rfl | ha
      · exact ⟨p.big, .inr (Nat.le_refl _)⟩
      · have ha : a ∈ feet (rs ++ cellRs prog w s.heap.objs.size cn cv) := ha
        rw [feet_append, feet_cells] at ha
        rcases List.mem_append.mp ha with ha | ha
        · exact ⟨p.fresh a ha, .inl ha⟩
        · obtain ⟨z, _, e⟩ := List.mem_map.mp ha
          have e : (s.heap.objs.size + 1 + z.2 : Nat) = a := e
          have big : (h₁.objs.size : Nat) ≤ s.heap.objs.size := p.big
          have g1 : (s.heap.objs.size : Nat) ≤ a := by omega
          exact ⟨Nat.le_trans big g1, .inr g1⟩
  refine wpAny_mono (h C rfl rfl hH ⟨A, hA, rfl⟩ _ den) (fun fl s' q => ?_) fun _ _ x => x.elim
  obtain ⟨n', b, D', d', rf, rs', nw, junk, pm, hf, q⟩ := q
  have hv := flow_val rf
  have dd := d'.perm pm
  have nd := List.nodup_cons.mp dd.nodup
  have fe : feet rs' = feet rs := feet_of_map hf
  have e1 : feet (rs' ++ nw ++ junk) = feet rs ++ (feet nw ++ feet junk) := by rw [feet_append, feet_append, fe, List.append_assoc]
  rw [show feet (DS.rs ⟨D'.m, rs' ++ nw ++ junk⟩) = feet rs ++ (feet nw ++ feet junk) from e1, List.nodup_append] at nd
  obtain ⟨-, nd1, nd2, nd3⟩ := nd
  have nd2' := List.nodup_append.mp nd2
  refine ⟨nx.trans n', dd.size, fun a o q e => dd.keep a o e q, flav b, rs', nw, hv, fun r hr => dd.regs r (List.mem_append_left _ hr), hf, nd2'.1, fun a ha => ?_, q⟩
  rcases (dd.fresh a (.tail _ (by show a ∈ feet (rs' ++ nw ++ junk); rw [e1]; exact List.mem_append_right _ (List.mem_append_left _ ha)))).2 with z | z
  · exact absurd rfl (nd3 a z a (List.mem_append_left _ ha))
  · exact z
end
end Mine
end
section
open PySem PySem.W
set_option maxRecDepth 100000
namespace Mine
/-- the same frame, another namespace -/
noncomputable def Cx.inn {w : World} (C : Cx w) (CL : Addr) (h : C.s₀.heap.objs.size ≤ CL) : Cx w := { C with L := CL, hL := h }
section
variable {prog : Program} {w : World} {C : Cx w} {D : DS} {env : Env} {pos : Pos} {E : Value → Shared → Prop}
noncomputable abbrev nsR (prog : Program) (w : World) (L : Addr) (m : Lc) : Reg := one prog w L (.ns m)
theorem Den.inn {m : Lc} {rs : List Reg} {s : Shared} (d : Den C ⟨m, rs⟩ s) {r : Reg} {h' : Heap} {tk : Nat} {CL : Addr} {mx : Lc} (hk : ∀ a o, s.heap.get? a = some o → h'.get? a = some o)
    (hr : r.P h') (hrn : r.foot.Nodup) (hrf : ∀ a ∈ r.foot, s.heap.objs.size ≤ a) (hcl : s.heap.objs.size ≤ CL) (hne : CL ∉ r.foot) (hns : RNs h' CL mx) :
    Nxt s { s with heap := h', toks := tk } ∧ Den (C.inn CL (Nat.le_trans d.size hcl)) ⟨mx, rs ++ [nsR prog w C.L m, r]⟩ { s with heap := h', toks := tk } := by
  have nx : Nxt s { s with heap := h', toks := tk } := ⟨.of_keeps hk, h', tk, rfl⟩
  have f1 : feet (rs ++ [nsR prog w C.L m, r]) = feet rs ++ (C.L :: r.foot) := by rw [feet_append]; simp [feet, one]
  have lt : ∀ a ∈ C.L :: feet rs, a < s.heap.objs.size := fun a ha => (d.notTp ha).lt
  have nd := List.nodup_cons.mp d.nodup
  refine ⟨nx, d.nxt.trans nx, fun a o e => hk _ _ (d.base a o e), fun a o e q => hk _ _ (d.keep a o e q), Nat.le_trans (Nat.le_trans d.size hcl) (Nat.le_of_lt hns.notTp.lt), hns, fun x hx => ?_, ?_, fun a ha => ?_⟩
  · rcases List.mem_append.mp hx with hx | hx
    · exact x.loc (.of_keeps hk) (fun a _ o e => hk _ _ e) (d.regs x hx)
    · rcases List.mem_cons.mp hx with rfl | hx
      · exact d.ns.mono (.of_keeps hk) fun o e => hk _ _ e
      · rw [List.mem_singleton.mp hx]; exact hr
  · show (CL :: feet (rs ++ [nsR prog w C.L m, r])).Nodup
    rw [f1]
    refine List.nodup_cons.mpr ⟨fun q => ?_, List.nodup_append.mpr ⟨nd.2, List.nodup_cons.mpr ⟨fun q => ?_, hrn⟩, fun a ha b hb e => ?_⟩⟩
    · rcases List.mem_append.mp q with q | q
      · exact absurd (lt _ (.tail _ q)) (Nat.not_lt.mpr hcl)
      · rcases List.mem_cons.mp q with q | q
        · exact absurd (lt _ (.head _)) (Nat.not_lt.mpr (q ▸ hcl))
        · exact hne q
    · exact absurd (lt _ (.head _)) (Nat.not_lt.mpr (hrf _ q))
    · subst e
      rcases List.mem_cons.mp hb with q | q
      · exact nd.1 (q ▸ ha)
      · exact absurd (lt _ (.tail _ ha)) (Nat.not_lt.mpr (hrf _ q))
  · rcases List.mem_cons.mp ha with rfl | ha
    · exact ⟨Nat.le_trans C.big (Nat.le_trans d.size hcl), .inr (Nat.le_trans d.size hcl)⟩
    · have ha : a ∈ feet (rs ++ [nsR prog w C.L m, r]) := ha
      rw [f1] at ha
      rcases List.mem_append.mp ha with ha | ha
      · exact d.fresh a (.tail _ ha)
      · rcases List.mem_cons.mp ha with rfl | ha
        · exact d.fresh _ (.head _)
        · exact ⟨Nat.le_trans C.big (Nat.le_trans d.size (hrf _ ha)), .inr (Nat.le_trans d.size (hrf _ ha))⟩
theorem Den.out {m mx : Lc} {rs : List Reg} {r : Reg} {s : Shared} {CL : Addr} {hc : C.s₀.heap.objs.size ≤ CL} (d : Den (C.inn CL hc) ⟨mx, rs ++ [nsR prog w C.L m, r]⟩ s) {h' : Heap} {tk : Nat} (hs : Heap.SameBut CL s.heap h') :
    Nxt s { s with heap := h', toks := tk } ∧ Den C ⟨m, rs ++ [r]⟩ { s with heap := h', toks := tk } := by
  have f1 : feet (rs ++ [nsR prog w C.L m, r]) = feet rs ++ (C.L :: r.foot) := by rw [feet_append]; simp [feet, one]
  have f2 : feet (rs ++ [r]) = feet rs ++ r.foot := by rw [feet_append]; simp [feet]
  have nt : NotTp s.heap CL := d.ns.notTp
  have le := le_same hs nt
  have nd := List.nodup_cons.mp d.nodup
  have nd1 : CL ∉ feet rs ++ (C.L :: r.foot) := f1 ▸ nd.1
  have nd2 : (feet rs ++ (C.L :: r.foot)).Nodup := f1 ▸ nd.2
  have keep : ∀ a ∈ feet rs ++ (C.L :: r.foot), ∀ o, s.heap.get? a = some o → h'.get? a = some o := fun a ha o e => (hs.2 a (fun z => nd1 (z ▸ ha))).trans e
  have CLn : C.h₁.objs.size ≤ CL := (d.fresh CL (.head _)).1
  have nx : Nxt s { s with heap := h', toks := tk } := ⟨le, h', tk, rfl⟩
  have rN : RNs s.heap C.L m := d.regs (nsR prog w C.L m) (by simp)
  have nn := List.nodup_append.mp nd2
  refine ⟨nx, d.nxt.trans nx, fun a o e => (hs.2 a (fun z => absurd (Heap.lt_size e) (Nat.not_lt.mpr (z ▸ CLn)))).trans (d.base a o e), fun a o e q => (hs.2 a (fun z => ?_)).trans (d.keep a o e q), by rw [hs.1]; exact d.size, ?_, fun x hx => ?_, ?_, fun a ha => ?_⟩
  · subst z; exact absurd (Heap.lt_size e) (Nat.not_lt.mpr hc)
  · exact rN.mono le fun o e => keep _ (by simp) o e
  · have hx' : x ∈ rs ++ [nsR prog w C.L m, r] := by
      rcases List.mem_append.mp hx with hx | hx
      · exact List.mem_append_left _ hx
      · rw [List.mem_singleton.mp hx]; simp
    refine x.loc le (fun a ha o e => keep a ?_ o e) (d.regs x hx')
    rcases List.mem_append.mp hx with hx | hx
    · exact List.mem_append_left _ (mem_feet.mpr ⟨x, hx, ha⟩)
    · rw [List.mem_singleton.mp hx] at ha; exact List.mem_append_right _ (.tail _ ha)
  · show (C.L :: feet (rs ++ [r])).Nodup
    rw [f2]
    refine List.nodup_cons.mpr ⟨fun q => ?_, List.nodup_append.mpr ⟨nn.1, (List.nodup_cons.mp nn.2.1).2, fun a ha b hb e => nn.2.2 a ha b (.tail _ hb) e⟩⟩
    rcases List.mem_append.mp q with q | q
    · exact nn.2.2 _ q _ (.head _) rfl
    · exact (List.nodup_cons.mp nn.2.1).1 q
  · have ha' : a ∈ CL :: feet (rs ++ [nsR prog w C.L m, r]) := by
      rw [f1]
      rcases List.mem_cons.mp ha with rfl | ha
      · exact .tail _ (List.mem_append_right _ (.head _))
      · have ha : a ∈ feet (rs ++ [r]) := ha
        rw [f2] at ha
        rcases List.mem_append.mp ha with ha | ha
        · exact .tail _ (List.mem_append_left _ ha)
        · exact .tail _ (List.mem_append_right _ (.tail _ ha))
    exact d.fresh a ha'
end
end Mine
end
section
open PySem PySem.W
set_option maxRecDepth 100000
namespace Mine
section
variable {prog : Program} {w : World} {C : Cx w} {D : DS} {env : Env} {pos : Pos} {E : Value → Shared → Prop}
variable (prog) in
/-- the regions within a comprehension -/
noncomputable abbrev inRs (C : Cx w) (m : Lc) (rs : List Reg) (I a Dl : Addr) (k : Nat) (ys : List AV) : List Reg := rs ++ [itList I a k] ++ [nsR prog w C.L m, one prog w Dl (.list ys)]
noncomputable def Tests (ifs : List Expr) (env : Env) : Sem Bool := forIn ifs true fun c r => if r = true then do let ok ← isTrue c env (eval c env); pure (ForInStep.yield ok) else pure (ForInStep.yield r)
theorem t_nil {C' : Cx w} {Q : Bool → DS → Prop} (h : Q true D) : BV prog w C' E (Tests [] env) D Q := fun s d => wpAny_tests_nil (.here d rfl h)
theorem t_one {C' : Cx w} {c : Expr} {Q : Bool → DS → Prop} (h : BV prog w C' E (isTrue c env (eval c env)) D Q) : BV prog w C' E (Tests [c] env) D Q := fun s d => wpAny_tests_one (h s d)
inductive StepK (prog : Program) (w : World) (C : Cx w) (CL : Addr) (hC : C.s₀.heap.objs.size ≤ CL) (mx : Lc) (R : List Reg → List Reg) (J : List AV → List Reg → Prop) (ys : List AV) (D : DS) : Prop
  | mk (rs' : List Reg) (t : ∀ s, Den (C.inn CL hC) D s → Den (C.inn CL hC) ⟨mx, R rs'⟩ s) (j : J ys rs') : StepK prog w C CL hC mx R J ys D
noncomputable abbrev StepZ (prog : Program) (w : World) (C : Cx w) (CL : Addr) (hC : C.s₀.heap.objs.size ≤ CL) (mx : Lc) (R : List Reg → List Reg) (J : List AV → List Reg → Prop) (ys : List AV) (z : AV) (D : DS) : Prop := StepK prog w C CL hC mx R J (ys ++ [z]) D
inductive CompK (prog : Program) (w : World) (C : Cx w) (elt : Expr) (x : Str) (ifs : List Expr) (scope : Scope) (cl : List (Str × Addr)) (env : Env) (F : DS → Nat → (List AV → List Reg → Prop) → Prop) (xa : AV) (D₁ : DS) : Prop
  | mk (a : Addr) (l : List AV) (i : Nat) (e : xa = .v (.ref a)) (hi : D₁.rs[i]? = some (one prog w a (.list l))) (hz : l.length ≤ 1000) (J : Nat → List AV → List Reg → Prop) (h0 : J 0 [] D₁.rs) (hm : ∀ k ys rs, J k ys rs → one prog w a (.list l) ∈ rs)
      (step : ∀ (CL Dl I : Addr) (hC : C.s₀.heap.objs.size ≤ CL) (k : Nat) (y : AV) (ys : List AV) (rs : List Reg), l[k]? = some y → J k ys rs →
        BV prog w (C.inn CL hC) (fun _ _ => False) (Tests ifs (compEnvC scope cl CL env)) ⟨[(x, some y)], inRs prog C D₁.m rs I a Dl (k + 1) ys⟩
          (Br (GW prog w (C.inn CL hC) (fun _ _ => False) Rv (eval elt (compEnvC scope cl CL env)) (StepZ prog w C CL hC [(x, none)] (fun rs' => inRs prog C D₁.m rs' I a Dl (k + 1) ys) (J (k + 1)) ys))
            (StepK prog w C CL hC [(x, none)] (fun rs' => inRs prog C D₁.m rs' I a Dl (k + 1) ys) (J (k + 1)) ys)))
      (q : F D₁ l.length (J l.length)) : CompK prog w C elt x ifs scope cl env F xa D₁
noncomputable abbrev CompE (prog : Program) (w : World) (Q : AV → DS → Prop) (D₁ : DS) (N : Nat) (J : List AV → List Reg → Prop) : Prop :=
  ∀ Dl ys rs, J ys rs → ys.length ≤ N → Q (.v (.ref Dl)) ⟨D₁.m, rs ++ [one prog w Dl (.list ys)]⟩
structure CompA (prog : Program) (w : World) (j : Nat) (y : Str) (Q : DS → Prop) (D₁ : DS) (N : Nat) (J : List AV → List Reg → Prop) : Prop where
  h : ∃ o, D₁.m[j]? = some (y, o)
  q : ∀ Dl ys rs, J ys rs → ys.length ≤ N → Q ⟨D₁.m.set j (y, some (.v (.ref Dl))), rs ++ [one prog w Dl (.list ys)]⟩
inductive CI {w : World} (C : Cx w) (N : Nat) (mx : Lc) (R : Nat → List AV → List Reg → List Reg) (J : Nat → List AV → List Reg → Prop) (s : Shared) (n : Nat) (s' : Shared) : Prop
  | mk (k : Nat) (ys : List AV) (rs : List Reg) (e : n = N + 1 - k) (hk : k ≤ N) (hy : ys.length ≤ k) (n1 : Nxt s s') (d : Den C ⟨mx, R k ys rs⟩ s') (j : J k ys rs) : CI C N mx R J s n s'
theorem lc_core {elt iter : Expr} {x : Str} {px cpos dpos : Pos} {ifs : List Expr} {scope : Scope} {use : Option (Value → Sem Unit)} {P : Value → Shared → Prop} {s : Shared} (cl : List (Str × Addr)) (hclos : closureFor scope env = pure cl) (hcell : ∀ y ∈ scope.names, y.2 ≠ .cell)
    (hkind : scope.kind = .function) (hnames : ∀ y ∈ scope.names, y.2 = .local → scope.names.lookup y.1 = some .local) (hx : scope.names.lookup x = some .local) (d : Den C D s)
    (h : EV prog w C E (eval iter env) D (CompK prog w C elt x ifs scope cl env (fun D₁ N J => ∀ (CL Dl : Addr) (hC : C.s₀.heap.objs.size ≤ CL) (ys : List AV) (rs : List Reg) (s' : Shared) (fl : Flow), J ys rs → ys.length ≤ N → Nxt s s' → Den (C.inn CL hC) ⟨[(x, none)], rs ++ [nsR prog w C.L D₁.m, one prog w Dl (.list ys)]⟩ s' → compPost (model prog w) C.A E use P (.ref Dl) CL (.ok fl) s')))
    (hs : ∀ x, foldedSetIterable iter env x = pure x) : wpAny (model prog w) C.A (comprehension (.ListComp elt [⟨.Name x px, iter, ifs, 0⟩] scope cpos) scope env dpos (newList []) false (eval iter env) use) P E s := by
  refine wpAny_comprehension_free (use := use) rfl hs hclos hkind hnames (wpAny_mono (h s d) (fun xv s₁ p => ?_) fun _ _ e => e)
  obtain ⟨n1, xa, D₁, d₁, r₁, a, l, i, rfl, hi, hz, J, h0, hmem, step, hQ⟩ := p
  obtain rfl := r₁.v_
  refine wpAny_mono (oi_list (Q := fun ia D₂ => ∃ I, ia = .v (.ref I) ∧ D₂ = ⟨D₁.m, D₁.rs ++ [itList I a 0]⟩) hi (fun I => ⟨I, rfl, rfl⟩) s₁ _ d₁ (.v _)) (fun it s₂ p => ?_) fun _ _ e => e
  obtain ⟨n2, _, _, d₂, r₂, I, rfl, rfl⟩ := p
  obtain rfl := r₂.v_
  have n12 := n1.trans n2
  refine wpAny_newObj_type (wpAny_newFunctionEnv hcell (by intro y hy; simp at hy) (fun h₁ hns₁ hsb₁ => ?_) hkind)
  dsimp only at hns₁ hsb₁ ⊢
  generalize hH2 : s₂.heap.push { cls := .type "list", dict := none, data := .seq ([] : List Value).toArray } = H2 at hns₁ hsb₁ ⊢
  have hCz : H2.objs.size = s₂.heap.objs.size + 1 := by rw [← hH2, Heap.size_push]
  have hcl' : s₂.heap.objs.size ≤ H2.objs.size := by rw [hCz]; exact Nat.le_succ _
  have ne1 : H2.objs.size ≠ s₂.heap.objs.size := by rw [hCz]; exact Nat.ne_of_gt (Nat.lt_succ_self _)
  have hk : ∀ b o, s₂.heap.get? b = some o → h₁.get? b = some o := fun b o e =>
    hsb₁.extBut b o (fun z => by have := Heap.lt_size e; rw [z, hCz] at this; exact absurd this (Nat.not_lt.mpr (Nat.le_succ _))) (push_keeps _ _ _ _ (hH2 ▸ push_keeps _ _ _ _ e))
  have hacc : (one prog w s₂.heap.objs.size (.list [])).P h₁ := ⟨#[], 0, hsb₁.extBut _ _ (Ne.symm ne1) (push_keeps _ _ _ _ (hH2 ▸ Heap.get?_push_size _ rfl)), .nil⟩
  have hC : C.s₀.heap.objs.size ≤ H2.objs.size := Nat.le_trans d₂.size hcl'
  have st := d₂.inn (prog := prog) (r := one prog w s₂.heap.objs.size (.list [])) (tk := s₂.toks + ([] : List (Str × Value)).length) (CL := H2.objs.size) (mx := [(x, none)]) hk hacc (by simp [one]) (by simp [one]) hcl' (by simp [one, ne1])
    ⟨_, hns₁, by simp, fun y av hm => by simp at hm⟩
  obtain ⟨n3, d₃⟩ := st
  generalize hs4 : ({ s₂ with heap := h₁, toks := s₂.toks + ([] : List (Str × Value)).length } : Shared) = s₄ at n3 d₃ ⊢
  have nk := n12.trans n3
  -- the loop
  have loop : codeAny (model prog w) C.A (.compLoop (.ListComp elt [⟨.Name x px, iter, ifs, 0⟩] scope cpos) 0 (.ref I) (.ref s₂.heap.objs.size) (compEnvC scope cl H2.objs.size env))
      (compPost (model prog w) C.A E use P (.ref s₂.heap.objs.size) H2.objs.size) s₄ := by
    refine codeAny_compLoop_tests (CI (C.inn H2.objs.size hC) l.length [(x, none)] (fun k ys rs => inRs prog C D₁.m rs I a s₂.heap.objs.size k ys) J s) ?_ (l.length + 1)
      ⟨0, [], D₁.rs, rfl, Nat.zero_le _, Nat.le_refl _, nk, d₃, h0⟩
    rintro n s' ⟨k, ys, rs, rfl, hkl, hyl, nn, dd, hJ⟩
    have hgi : (inRs prog C D₁.m rs I a s₂.heap.objs.size k ys)[rs.length]? = some (itList I a k) := by simp
    refine wpAny_mono ((srcList prog (C.inn H2.objs.size hC) I a l).next (fun _ _ => False) k ⟨[(x, none)], inRs prog C D₁.m rs I a s₂.heap.objs.size k ys⟩ rs.length (fun o D' => match o with
        | none => l[k]? = none ∧ D' = ⟨[(x, none)], rs ++ [nsR prog w C.L D₁.m, one prog w s₂.heap.objs.size (.list ys)]⟩
        | some y => l[k]? = some y ∧ D' = ⟨[(x, none)], inRs prog C D₁.m rs I a s₂.heap.objs.size (k + 1) ys⟩) hkl
      (fun r hr => by rw [List.mem_singleton.mp hr]; exact List.mem_append_left _ (List.mem_append_left _ (hmem _ _ _ hJ))) hgi
      (fun y hy => ⟨hy, by simp [inRs, srcList]⟩) (fun hy => ⟨hy, by simp [inRs, List.eraseIdx_append_of_length_le]⟩) s' dd) (fun v s₅ p => ?_) fun _ _ e => e.elim
    obtain ⟨n5, o, D₅, d₅, r₅, q⟩ := p
    cases r₅ with
    | none =>
      obtain ⟨hn, rfl⟩ := q
      have hke : k = l.length := Nat.le_antisymm hkl (List.getElem?_eq_none_iff.mp hn)
      subst hke
      exact hQ H2.objs.size s₂.heap.objs.size hC ys rs s₅ _ hJ hyl (nn.trans n5) d₅
    | @some v y r₅ =>
      obtain ⟨hy, rfl⟩ := q
      have hlt : k < l.length := (List.getElem?_eq_some_iff.mp hy).1
      have A1 : wpAny (model prog w) C.A (assign (.Name x px) (compEnvC scope cl H2.objs.size env) v) (fun _ s₆ => Nxt s₅ s₆ ∧ Den (C.inn H2.objs.size hC) ⟨[(x, some y)], inRs prog C D₁.m rs I a s₂.heap.objs.size (k + 1) ys⟩ s₆) (fun _ _ => False) s₅ :=
        wpAny_mono (as_name (C := C.inn H2.objs.size hC) (i := 0) (x := x) (o := none) (a := y) (Q := fun D' => D' = ⟨[(x, some y)], inRs prog C D₁.m rs I a s₂.heap.objs.size (k + 1) ys⟩) (by rfl) rfl rfl hkind (show Env.kindOf (compEnvC scope cl H2.objs.size env) x = some .local from lookup_relabel_local (env := env) hx) s₅ v d₅ r₅)
          (fun _ s₆ p => by obtain ⟨n6, _, D₆, d₆, _, rfl⟩ := p; exact ⟨n6, d₆⟩) fun _ _ e => e
      refine wpAny_mono A1 (fun _ s₆ p => ?_) fun _ _ e => e.elim
      obtain ⟨n6, d₆⟩ := p
      refine wpAny_mono (step H2.objs.size s₂.heap.objs.size I hC k y ys rs hy hJ s₆ d₆) (fun b s₇ p => ?_) fun _ _ e => e.elim
      obtain ⟨n7, b', D₇, d₇, rfl, q7⟩ := p
      cases b with
      | false =>
        obtain ⟨rs', t, j⟩ := q7.2 rfl
        exact ⟨l.length + 1 - (k + 1), by omega, k + 1, ys, rs', rfl, hlt, by omega, nn.trans (n5.trans (n6.trans n7)), t _ d₇, j⟩
      | true =>
        refine wpAny_mono (q7.1 rfl s₇ d₇) (fun zv s₈ p => ?_) fun _ _ e => e.elim
        obtain ⟨n8, z, D₈, d₈, r₈, rs', t, j⟩ := p
        have d₈' := t _ d₈
        refine wpAny_mono (ol_append (C := C.inn H2.objs.size hC) (E := fun _ _ => False) (D := ⟨[(x, none)], inRs prog C D₁.m rs' I a s₂.heap.objs.size (k + 1) ys⟩) (i := rs'.length + 2) (a := s₂.heap.objs.size) (l := ys) (x := z)
          (Q := fun _ D' => D' = ⟨[(x, none)], inRs prog C D₁.m rs' I a s₂.heap.objs.size (k + 1) (ys ++ [z])⟩) (by simp) (by omega) (by simp [inRs]) s₈ [.ref s₂.heap.objs.size, zv] d₈' (.cons (.v _) (.cons r₈ .nil))) (fun _ s₉ p => ?_) fun _ _ e => e.elim
        obtain ⟨n9, _, _, d₉, _, rfl⟩ := p
        exact ⟨l.length + 1 - (k + 1), by omega, k + 1, ys ++ [z], rs', rfl, hlt, by simp; omega, nn.trans (n5.trans (n6.trans (n7.trans (n8.trans n9)))), d₉, j⟩
  refine codeAny_compStart_list loop ?_
  obtain ⟨o, ho, hc, hd⟩ := d₃.regs (itList I a 0) (by simp)
  exact wpAny_pyIter_listiter (i := 0) ⟨o, ho, hc, hd⟩ loop
theorem e_listcomp {elt iter : Expr} {x : Str} {px : Pos} {ifs : List Expr} {scope : Scope} (cl : List (Str × Addr)) {Q : AV → DS → Prop} (hclos : closureFor scope env = pure cl) (hcell : ∀ y ∈ scope.names, y.2 ≠ .cell)
    (hkind : scope.kind = .function) (hnames : ∀ y ∈ scope.names, y.2 = .local → scope.names.lookup y.1 = some .local) (hx : scope.names.lookup x = some .local)
    (h : EV prog w C E (eval iter env) D (CompK prog w C elt x ifs scope cl env (CompE prog w Q)))
    (hs : ∀ x, foldedSetIterable iter env x = pure x := by intro _; rfl) : EV prog w C E (eval (.ListComp elt [⟨.Name x px, iter, ifs, 0⟩] scope pos) env) D Q := fun s d => by
  rw [eval_ListComp]
  refine lc_core (use := none) cl hclos hcell hkind hnames hx d (h.mono fun xa D₁ q => ?_) hs
  obtain ⟨a, l, i, e, hi, hz, J, h0, hm, step, hQ⟩ := q
  refine ⟨a, l, i, e, hi, hz, J, h0, hm, step, fun CL Dl hC ys rs s' fl hJ hyl nn d5 => ?_⟩
  obtain ⟨mv, hmv, _⟩ := d5.ns
  refine ⟨mv, hmv, fun h' hs' => ?_⟩
  have so := Den.out (prog := prog) (tk := s'.toks) d5 hs'
  exact ⟨nn.trans so.1, _, _, so.2, .v _, hQ _ ys rs hJ hyl⟩
end
end Mine
end
section
open PySem PySem.W
set_option maxRecDepth 100000
namespace Mine
section
variable {prog : Program} {w : World}
theorem o_eqL {C : Cx w} {E : Value → Shared → Prop} {D : DS} {i j : Nat} {a b : Addr} {xs ys : List PyData} {Q : AV → DS → Prop} (hi : D.rs[i]? = some (one prog w a (.list (xs.map .d)))) (hj : D.rs[j]? = some (one prog w b (.list (ys.map .d))))
    (hx : SeqAt.shaped (.list xs) = true) (hy : SeqAt.shaped (.list ys) = true) (h : Q (.d (.bool ((PyData.list xs).eqv (.list ys)))) D) : O2 prog w C E Rv (compareOp .Eq) (.v (.ref a)) (.v (.ref b)) D Q := fun s u v d r q => by
  obtain rfl := r.v_
  obtain rfl := q.v_
  obtain ⟨vs, ⟨n, e1⟩, r1⟩ := d.listAt hi
  obtain ⟨us, ⟨n', e2⟩, r2⟩ := d.listAt hj
  exact SeqAt.compareEq_shaped (.list e1 rfl rfl r1.reads) (.list e2 rfl rfl r2.reads) hx hy C.eqRoom (.here d (.d (.bool _)) h)
/-- the law's own formal term -/
noncomputable def lawFormal (T : List Str) (G : List (Int × Int)) (name : Str) (parts : List PyData) : PyData × List Str × List (Int × Int) :=
  if parts = [] then (.tuple [.str "a", .int (ix (addL T name) name : Nat)], addL T name, G) else formal T G name parts
set_option maxHeartbeats 4000000
theorem fn_lawFormal (B : BA) (T : List Str) (G : List (Int × Int)) (name : Str) (parts : List PyData) (pa : Addr) (hT : T.length ≤ 4000) (hG : G.length ≤ 4000) (hp : parts.length ≤ 10) (hd : ∀ d ∈ parts, (∃ x, d = .str x) ∨ ∃ xs, d = .tuple xs) (hs : SeqAt.shaped (.list parts) = true) :
    Fn prog w (.ref 382) 3 [.v (.ref B.o), .d (.str name), .v (.ref pa)] (bookRs prog w B T G ++ [one prog w pa (.list (parts.map .d))])
      (fun av rs' nw => av = .d (lawFormal T G name parts).1 ∧ rs' = bookRs prog w B (lawFormal T G name parts).2.1 (lawFormal T G name parts).2.2 ++ [one prog w pa (.list (parts.map .d))] ∧ nw = []) := fun h₁ A s vals p => by
  refine fn_bodyC (H := fun _ => True) (Z := fun _ => True) ["book", "name", "parts"] [("name", some (.d (.str name))), ("parts", some (.v (.ref pa))), ("args", none)] [("book", 0)] (fun x => if x == "book" then some (.v (.ref B.o)) else none)
    (by rfl) (by rfl) (by kernel_rfl) ?_ (by rfl) (by decide) (fun L => by rfl) (by decide) ?_ ?_ ?_ (by show (["name", "parts", "args"] : List Str).Nodup; decide) ?_ (by rfl) ?_ (by rfl) (by rfl) (by rfl) h₁ A s vals trivial p trivial
  · intro vals h
    obtain ⟨a, b, c, rfl⟩ := len3 h
    rfl
  · intro L p hp
    rw [List.mem_singleton.mp hp]; rfl
  · intro L x hx
    rcases List.mem_cons.mp hx with rfl | hx
    · exact .inr ⟨by rfl, by rfl⟩
    · rcases List.mem_cons.mp hx with rfl | hx
      · exact .inl (by rfl)
      · rw [List.mem_singleton.mp hx]; exact .inl (by rfl)
  · intro x a hx
    rcases List.mem_cons.mp hx with e | hx
    · cases e; exact ⟨by simp, by rfl⟩
    · rcases List.mem_cons.mp hx with e | hx
      · cases e; exact ⟨by simp, by rfl⟩
      · have := List.mem_singleton.mp hx; cases this
  · intro p hp a ha
    rw [List.mem_singleton.mp hp] at ha ⊢
    have : a = .v (.ref B.o) := by simpa using ha.symm
    subst this
    exact ⟨by simp, by rfl⟩
  intro C hC ho _ _
  have hlen : (parts.map AV.d).length = parts.length := by simp
  refine ss_cons <| s_if <| b_cmp <| e_loc (i := 1) (by rfl) <| e_list <| l_nil ⟨by decide, fun q => o_eqL (i := 5) (j := 7) (xs := parts) (ys := []) (by rfl) (by rfl) hs (by decide +kernel) ⟨_, rfl, fun h1 => ?_, fun h1 => ?_⟩⟩
  · have pe : parts = [] := by cases parts with | nil => rfl | cons x l => cases h1
    subst pe
    refine ss_cons ?_
    refine s_ret ?_
    refine e_tuple ?_
    refine l_str ?_
    refine l_cons <| e_meth <| e_cell (i := 6) (by rfl) ⟨_, gm_inst 88 (i := 0) (by rfl), kp_K (by kernel_rfl), l_cons <| e_loc (i := 0) (by rfl) <| l_nil <| ol_f (fn_atom B T G name (by omega)) [0, 1, 2, 3, 4] ?_⟩
    refine w_x3 ?_
    refine l_nil ⟨[.str "a", .int (ix (addL T name) name : Nat)], rfl, by simp, ?_⟩
    exact ⟨bookRs prog w B (addL T name) G ++ [one prog w pa (.list ([].map .d))], [], [_, _], .refl _, rfl, rfl, rfl, rfl⟩
  have pe : parts ≠ [] := by rintro rfl; cases h1
  have lf : lawFormal T G name parts = formal T G name parts := if_neg pe
  rw [lf]
  refine ss_nil <| ss_cons <| s_assign (i := 2) <| e_bcall (l_cons <| e_listcomp [("book", C.L + 1)] (by rfl) (by decide) (by rfl) (by decide) (by rfl) <| e_loc (i := 1) (by rfl) ⟨pa, parts.map .d, 5, rfl, by rfl, by omega,
    fun k ys rs => rs = bookRs prog w B (pfold T (parts.take k)).2 G ++ [one prog w pa (.list (parts.map .d)), cellR prog w (C.L + 1) (some (.v (.ref B.o))), one prog w q (.list [])] ∧ ys = (pfold T (parts.take k)).1.map .d, ⟨rfl, rfl⟩, ?_, ?_, ?_⟩) kp_type
  · rintro k ys _ ⟨rfl, _⟩
    exact List.mem_append_right _ (.head _)
  · rintro CL Dl I hCL k y ys _ hy ⟨rfl, rfl⟩
    have hC2 : (C.inn CL hCL).lv = 2 := hC
    obtain ⟨d, hx', rfl⟩ : ∃ d, parts[k]? = some d ∧ y = .d d := by
      simp only [List.getElem?_map, Option.map_eq_some_iff] at hy
      obtain ⟨d, h1, rfl⟩ := hy
      exact ⟨d, h1, rfl⟩
    have tk : parts.take (k + 1) = parts.take k ++ [d] := by rw [List.take_add_one, hx']; rfl
    have hl := pfold_length (parts.take k) T
    have hk : (parts.take k).length ≤ 10 := by simp; omega
    have sn := pfold_snoc T d (parts.take k) T
    refine t_nil ⟨fun _ => ?_, fun e => absurd e.symm Bool.false_ne_true⟩
    refine e_ifexp <| b_val <| e_bcall (l_cons <| e_loc (i := 0) (by rfl) <| l_cons <| e_builtin (by kernel_rfl) (by rfl) (by decide) <| l_nil <| ol_isStr (hd d (List.mem_of_getElem? hx')) <| t_bool ?_) kp_builtin
    rcases hd d (List.mem_of_getElem? hx') with ⟨z, rfl⟩ | ⟨xs, rfl⟩
    · refine ⟨fun _ => ?_, fun e => absurd e.symm Bool.false_ne_true⟩
      refine e_tuple ?_
      refine l_str ?_
      refine l_cons <| e_meth <| e_cell (i := 6) (by rfl) ⟨_, gm_inst 88 (i := 0) (by rfl), kp_K (by kernel_rfl), l_cons <| e_loc (i := 0) (by rfl) <| l_nil <| ol_f (fn_atom B (pfold T (parts.take k)).2 G z (by omega)) [0, 1, 2, 3, 4] ?_⟩
      refine w_x3 ?_
      refine l_nil ⟨[.str "a", .int (ix (addL (pfold T (parts.take k)).2 z) z : Nat)], rfl, by simp, ?_⟩
      refine ⟨_, ?_, rfl, by rw [tk, sn, List.map_append]; rfl⟩
      rw [tk, sn]
      exact to_of
    · refine ⟨fun e => absurd e Bool.false_ne_true, fun _ => ?_⟩
      refine e_loc (i := 0) (by rfl) ⟨_, ?_, rfl, by rw [tk, sn, List.map_append]; rfl⟩
      rw [tk, sn]
      exact to_of
  rintro Dl ys _ ⟨rfl, rfl⟩ _
  rw [hlen, List.take_length]
  have hl := pfold_length parts T
  refine l_nil <| ol_tupData (i := 8) (by rfl) (by omega) ⟨⟨_, by rfl⟩, ?_⟩
  refine ss_cons ?_
  refine s_ret ?_
  refine e_tuple ?_
  refine l_str ?_
  refine l_cons <| e_meth <| e_cell (i := 6) (by rfl) ⟨_, gm_inst 109 (i := 0) (by rfl), kp_K (by kernel_rfl), ?_⟩
  refine l_cons <| e_loc (i := 0) (by rfl) <| l_cons <| e_bcall (l_cons <| e_loc (i := 1) (by rfl) <| l_nil <| ol_len (i := 5) (by rfl) (by rw [hlen]; omega) ?_) kp_builtin
  rw [hlen]
  refine l_nil <| ol_f (fn_func B (pfold T parts).2 G name parts.length (by omega) (by omega)) [0, 1, 2, 3, 4] ?_
  refine w_x3 ?_
  refine l_cons <| e_loc (i := 2) (by rfl) ?_
  refine l_nil ⟨[.str "s", .int (ix (addL G ((ix (addL (pfold T parts).2 name) name : Nat), (parts.length : Int))) ((ix (addL (pfold T parts).2 name) name : Nat), (parts.length : Int)) : Nat), .tuple (pfold T parts).1], rfl, by simp, ?_⟩
  exact ⟨bookRs prog w B (formal T G name parts).2.1 (formal T G name parts).2.2 ++ [one prog w pa (.list (parts.map .d))], [], [_, _, _], .refl _, rfl, rfl, rfl, rfl⟩
end
end Mine
end
section
open PySem PySem.W
set_option maxRecDepth 100000
namespace Mine
section
variable {prog : Program} {w : World} {C : Cx w} {D : DS} {env : Env} {pos : Pos} {E : Value → Shared → Prop}
section
variable (prog w C E)
inductive ChK (r₂ : Sem Value) (o₂ : CmpOp) (Q : Bool → DS → Prop) (b c : AV) (D : DS) : Prop
  | mk (t : Bool) (e : c = .d (.bool t)) (f : t = false → Q false D) (h : t = true → GW prog w C E Rv r₂ (P2 prog w C E Rv (compareOp o₂) (BT Q) b) D) : ChK r₂ o₂ Q b c D
noncomputable abbrev Ch2 (r₂ : Sem Value) (o₁ o₂ : CmpOp) (Q : Bool → DS → Prop) (a b : AV) (D : DS) : Prop := P2 prog w C E Rv (compareOp o₁) (ChK prog w C E r₂ o₂ Q b) a b D
noncomputable abbrev Ch1 (r₁ r₂ : Sem Value) (o₁ o₂ : CmpOp) (Q : Bool → DS → Prop) (a : AV) (D : DS) : Prop := GW prog w C E Rv r₁ (Ch2 prog w C E r₂ o₁ o₂ Q a) D
end
/-- a op b op c, tested -/
theorem b_chain {l r₁ r₂ : Expr} {o₁ o₂ : CmpOp} {whole : Sem Value} {Q : Bool → DS → Prop}
    (h : EV prog w C E (eval l env) D (Ch1 prog w C E (eval r₁ env) (eval r₂ env) o₁ o₂ Q))
    (hm : lastMarks [o₁, o₂] [r₁, r₂] = false := by with_unfolding_all rfl) : BV prog w C E (isTrue (.Compare l [o₁, o₂] [r₁, r₂] pos) env whole) D Q := fun s d => by
  refine PyProof.Rows.isTrue_chain (wpAny_mono (h s d) (fun av s₁ p => PyProof.Rows.test_link ?_) fun _ _ x => x) hm
  obtain ⟨n1, a, D₁, d₁, ra, p⟩ := p
  refine wpAny_mono (p s₁ d₁) (fun bv s₂ p => ?_) fun _ _ x => x
  obtain ⟨n2, b, D₂, d₂, rb, p⟩ := p
  refine wpAny_mono (p s₂ av bv d₂ (ra.le n2.1) rb) (fun cv s₃ p => ?_) fun _ _ x => x
  obtain ⟨n3, c, D₃, d₃, rc, t, rfl, h1, h2⟩ := p
  rw [rc.bool_]
  refine wpAny_truthy_bool ?_
  have n13 := n1.trans (n2.trans n3)
  cases t with
  | false => exact ⟨n13, false, D₃, d₃, rfl, h1 rfl⟩
  | true =>
    refine PyProof.Rows.test_last (wpAny_mono (h2 rfl s₃ d₃) (fun ev s₄ p => ?_) fun _ _ x => x)
    obtain ⟨n4, e, D₄, d₄, re, p⟩ := p
    refine wpAny_mono (p s₄ bv ev d₄ (rb.le (n3.1.trans n4.1)) re) (fun cv s₅ p => ?_) fun _ _ x => x
    obtain ⟨n5, c, D₅, d₅, rc, t, rfl, q⟩ := p
    rw [rc.bool_]
    exact wpAny_truthy_bool ⟨n13.trans (n4.trans n5), t, D₅, d₅, rfl, q⟩
/-- an item of a dict of plain keys -/
theorem i_dict {K : Type} [DecidableEq K] (P : PlK prog w K) {v sl : Expr} {i : Nat} {a : Addr} {kvs : List (K × AV)} {k : K} {x : AV} {Q : AV → DS → Prop} (hi : D.rs[i]? = some (one prog w a (P.mo kvs))) (hx : at_ kvs k = some x) (h : Q x D)
    (hs : ∀ o u, subscripted sl false o u = operate [o, u] (getItem o u) := by intro _ _; rfl) : O2 prog w C E Rv (PyProof.Rows.subscriptTail v sl) (.v (.ref a)) (P.enc k) D Q := o2v1 fun s y d q => by
  obtain ⟨xs, h1, h2⟩ := d.plAt P hi
  have z := h2.at k
  rw [hx] at z
  obtain ⟨u, z1, z2⟩ := z
  exact PyProof.Rows.tail_any (T := "dict") h1.typeIs slot_dict_getitem.lookup (wpAny_getItem_of (P.key q) h1.mapOf z1 (.intro ⟨.toks _ _, d.toks _⟩ z2 h)) (hs _ _)
variable {K : Type} [DecidableEq K] (P : PlK prog w K)
inductive PR (h : Heap) : List (Value × Value) → List (K × AV) → Prop
  | nil : PR h [] []
  | cons {kv vv : Value} {k : K} {a : AV} {vs : List (Value × Value)} {kvs : List (K × AV)} : Rv h kv (P.enc k) → Rv h vv a → PR h vs kvs → PR h ((kv, vv) :: vs) ((k, a) :: kvs)
noncomputable def mergeA (acc kvs : List (K × AV)) : List (K × AV) := kvs.foldl (fun acc kv => put_ acc kv.1 kv.2) acc
theorem PR.le {h h' : Heap} (k : Le h h') {vs : List (Value × Value)} {kvs : List (K × AV)} (x : PR P h vs kvs) : PR P h' vs kvs := by
  induction x with
  | nil => exact .nil
  | cons a b _ ih => exact .cons (a.le k) (b.le k) ih
theorem PR.carries {h : Heap} {vs : List (Value × Value)} {kvs : List (K × AV)} (x : PR P h vs kvs) : ∃ xs, Carries P.knd vs xs ∧ ∀ acc accA, KR h acc accA → KR h (merged acc xs) (mergeA accA kvs) := by
  induction x with
  | nil => exact ⟨[], trivial, fun _ _ r => r⟩
  | @cons kv vv k a vs kvs h1 h2 _ ih =>
    obtain ⟨xs, c, m⟩ := ih
    exact ⟨(k, vv) :: xs, ⟨P.key h1, rfl, c⟩, fun acc accA r => m _ _ (r.put k h2)⟩
variable (C E) in
noncomputable abbrev PV (t : Sem (List (Value × Value))) (D : DS) (Q : List (K × AV) → DS → Prop) : Prop := GV prog w C E (PR P) t D Q
theorem pv_nil {Q : List (K × AV) → DS → Prop} (h : Q [] D) : PV C E P (evalPairs (pairTrees [] [] env pos)) D Q := fun s d => pairTrees_nil_walk (.here d .nil h)
noncomputable abbrev PQ (Q : List (K × AV) → DS → Prop) (key : K) (va : AV) (kvs : List (K × AV)) (D : DS) : Prop := Q ((key, va) :: kvs) D
noncomputable abbrev PQv (prog : Program) (w : World) (P : PlK prog w K) (C : Cx w) (E : Value → Shared → Prop) (rest : Sem (List (Value × Value))) (Q : List (K × AV) → DS → Prop) (key : K) (va : AV) (D : DS) : Prop := GW prog w C E (PR P) rest (PQ Q key va) D
inductive PQk (prog : Program) (w : World) (P : PlK prog w K) (C : Cx w) (E : Value → Shared → Prop) (v : Sem Value) (rest : Sem (List (Value × Value))) (Q : List (K × AV) → DS → Prop) (ka : AV) (D : DS) : Prop
  | mk (key : K) (e : ka = P.enc key) (h : GW prog w C E Rv v (PQv prog w P C E rest Q key) D) : PQk prog w P C E v rest Q ka D
theorem pv_cons {k v : Expr} {ks : List (Option Expr)} {vs : List Expr} {Q : List (K × AV) → DS → Prop}
    (h : EV prog w C E (eval k env) D (PQk prog w P C E (eval v env) (evalPairs (pairTrees ks vs env pos)) Q)) :
    PV C E P (evalPairs (pairTrees (some k :: ks) (v :: vs) env pos)) D Q := fun s d => by
  refine pairTrees_cons_walk (wpAny_mono (h s d) (fun kv s₁ p => ?_) fun _ _ x => x)
  obtain ⟨n1, ka, D₁, d₁, r1, key, rfl, p⟩ := p
  refine wpAny_mono (p s₁ d₁) (fun vv s₂ p => ?_) fun _ _ x => x
  obtain ⟨n2, va, D₂, d₂, r2, p⟩ := p
  refine wpAny_mono (p s₂ d₂) (fun r s₃ p => ?_) fun _ _ x => x
  obtain ⟨n3, kvs, D₃, d₃, r3, q⟩ := p
  exact ⟨n1.trans (n2.trans n3), _, D₃, d₃, .cons (r1.le (n2.1.trans n3.1)) (r2.le n3.1) r3, q⟩
inductive DicK (prog : Program) (w : World) (P : PlK prog w K) (a : Addr) (Q : AV → DS → Prop) (kvs : List (K × AV)) (D : DS) : Prop
  | mk (i : Nat) (h : D.rs[i]? = some (one prog w a (P.mo []))) (q : Q (.v (.ref a)) ⟨D.m, D.rs.set i (one prog w a (P.mo (mergeA [] kvs)))⟩) : DicK prog w P a Q kvs D
/-- a dict display -/
theorem e_dict {keys : List (Option Expr)} {values : List Expr} {Q : AV → DS → Prop}
    (h : ∀ a, PV C E P (evalPairs (pairTrees keys values env pos)) ⟨D.m, D.rs ++ [one prog w a (P.mo [])]⟩ (DicK prog w P a Q))
    (hall : keys.all (·.isSome) = true := by rfl) (hl : keys.length = values.length := by rfl) (h0 : keys ≠ [] := by exact List.cons_ne_nil _ _) (hlen : keys.length ≤ 15 := by exact Nat.le_of_ble_eq_true rfl) :
    EV prog w C E (eval (.Dict keys values pos) env) D Q := fun s d => by
  have st := d.new (one prog w s.heap.objs.size (P.mo [])) (tk := s.toks) (push_keeps s.heap { cls := .type "dict", data := .dict #[] }) (push_size _ _) (pl_ro P (Heap.DictOf.new _) .nil) (by simp [one]) (by simp [one])
  refine wpAny_Dict_walk (knd := P.knd) hall hl h0 hlen (wpAny_mono (h s.heap.objs.size _ st.2) (fun vs s₁ p => ?_) fun _ _ x => x)
  obtain ⟨n1, kvs, D₁, d₁, r, i, hi, q⟩ := p
  obtain ⟨xs, c, m⟩ := r.carries
  obtain ⟨ys, g1, g2⟩ := d₁.plAt P hi
  have hys : ys = [] := by cases g2; rfl
  subst hys
  have nt := d₁.notTp (.tail _ (mem_feet.mpr ⟨_, mem_of_get hi, .head _⟩) : s.heap.objs.size ∈ C.L :: feet D₁.rs)
  obtain ⟨xs', c', m'⟩ := (r.le P (Le.refl _)).carries
  refine ⟨xs, c, g1, fun h' hm hs => ?_⟩
  have r' : KR h' (merged [] xs) (mergeA [] kvs) := (m [] [] .nil).le (le_same hs nt)
  exact (Po.intro (d₁.upd hi (r' := one prog w s.heap.objs.size (P.mo (mergeA [] kvs))) (tk := s₁.toks + vs.length) rfl (fun b o q e => (hs.2 b (by simpa [one] using q)).trans e) (Nat.le_of_eq hs.1.symm) (pl_ro P hm r')) (.v _) q).after (st.1.trans n1)
end
end Mine
end
section
open PySem PySem.W
set_option maxRecDepth 100000
namespace Mine
noncomputable abbrev Md := List ((Str × Str) × (Int × Str))
noncomputable def mdA (M : Md) : List (List Str × AV) := M.map fun kv => ([kv.1.1, kv.1.2], entA kv.2)
theorem at_md (M : Md) (a b : Str) : at_ (mdA M) [a, b] = (at_ M (a, b)).map entA := by
  unfold at_ mdA
  induction M with
  | nil => rfl
  | cons x M ih =>
    rw [List.map_cons, List.find?_cons, List.find?_cons]
    by_cases e : x.1 = (a, b)
    · simp [e]
    · have e' : ¬ ([x.1.1, x.1.2] = [a, b]) := fun q => e (by simp at q; exact Prod.ext q.1 q.2)
      simp only [e, e', decide_false]; exact ih
noncomputable def otherOf (c : Str) : Str := if c = "infix" then "postfix" else if c = "postfix" then "infix" else "none"
noncomputable def barL (M : Md) (pr : Int) (tt name : Str) : Option Str :=
  if name = "," then some "modify"
  else if name = "[]" ∨ name = "{}" then some "create"
  else if name = "|" ∧ (lawClass tt ≠ "infix" ∨ (0 < pr ∧ pr < 1001)) then some "create"
  else if 0 < pr ∧ (at_ M (otherOf (lawClass tt), name)).isSome then some "create"
  else none
noncomputable def barLst (e : Option Str) (item : Tm) : List PyData := match e with
  | none => []
  | some a => [.str a, .str "operator", item.py]
theorem lawClass_cases (t : Str) : lawClass t = "prefix" ∨ lawClass t = "postfix" ∨ lawClass t = "infix" ∨ lawClass t = "" := by
  unfold lawClass; split
  · exact .inl rfl
  · split
    · exact .inr (.inl rfl)
    · split
      · exact .inr (.inr (.inl rfl))
      · exact .inr (.inr (.inr rfl))
theorem strEq (x y : Str) : (PyData.str x).eqv (.str y) = (x == y) := rfl
section
variable {prog : Program} {w : World}
set_option maxHeartbeats 4000000
theorem fn_lawBarred (B : BA) (T : List Str) (G : List (Int × Int)) (M : Md) (mo : Addr) (pr : Int) (tt name : Str) (item : Tm) (hT : T.length ≤ 4000) (hi : item.isA = true) (hn : T[item.num]? = some name) (hns : SeqAt.shaped (.str name) = true) (hc : lawClass tt ≠ "") :
    Fn prog w (.ref 389) 3 [.v (.ref B.o), .v (.ref mo), .d (.int pr), .d (.str tt), .d item.py] (bookRs prog w B T G ++ [one prog w mo (.dTS (mdA M))])
      (fun av rs' nw => ∃ r, av = .v (.ref r) ∧ rs' = bookRs prog w B T G ++ [one prog w mo (.dTS (mdA M))] ∧ nw = [one prog w r (.list ((barLst (barL M pr tt name) item).map .d))]) := by
  refine fn_body ["book", "model", "priority", "kind", "item"] ["name", "place", "other"] (by rfl) (by rfl) (by kernel_rfl) ?_ (by rfl) (by decide) (by decide) (by decide) ?_ (by rfl) (by rfl) (by rfl)
  · intro vals h
    obtain ⟨a, b, c, d, e, rfl⟩ := len5 h
    rfl
  intro C hC ho
  refine ss_cons <| s_assign (i := 5) <| e_meth <| e_loc (i := 0) (by rfl) ⟨_, gm_inst 95 (i := 0) (by rfl), kp_K (by kernel_rfl), ?_⟩
  refine l_cons <| e_sub <| e_loc (i := 4) (by rfl) <| e_int <| i_tm (k := 1) item.fld1 ?_
  rw [Tm.num_snd hi]
  refine l_nil <| ol_f (fn_text B T G item.num name (by omega) hn) [0, 1, 2, 3, 4] ?_
  refine w_x3 ?_
  refine ⟨⟨_, by rfl⟩, ?_⟩
  refine ss_cons <| s_if <| b_cmp <| e_loc (i := 5) (by rfl) <| e_str <| o_eq hns (by decide +kernel) ⟨name == ",", rfl, fun h1 => ?_, fun h1 => ?_⟩
  · have e : barL M pr tt name = some ("modify" : Str) := by unfold barL; rw [if_pos (by simpa using h1)]
    refine ss_cons <| s_ret <| e_list <| l_cons <| e_str <| l_cons <| e_str <| l_cons <| e_loc (i := 4) (by rfl) <| l_nil ⟨by simp, fun r => ?_⟩
    exact ⟨bookRs prog w B T G ++ [one prog w mo (.dTS (mdA M))], [one prog w r (.list ((barLst (barL M pr tt name) item).map .d))], [], by rw [e]; exact .refl _, rfl, r, rfl, rfl, rfl⟩
  have n1 : name ≠ "," := by simpa using h1
  refine ss_nil <| ss_cons <| s_assign (i := 6) <| e_fcall 370 <| l_cons <| e_loc (i := 3) (by rfl) <| l_nil <| ol_f (fn_class tt) [] ?_
  refine w_x3 ?_
  refine ⟨⟨_, by rfl⟩, ?_⟩
  generalize hpl : lawClass tt = pl at hc ⊢
  have hplc : pl = "prefix" ∨ pl = "postfix" ∨ pl = "infix" := by
    rcases lawClass_cases tt with h | h | h | h <;> rw [hpl] at h
    · exact .inl h
    · exact .inr (.inl h)
    · exact .inr (.inr h)
    · exact absurd h hc
  let W : DS := ⟨[("book", none), ("model", some (.v (.ref mo))), ("priority", some (.d (.int pr))), ("kind", none), ("item", some (.d item.py)), ("name", some (.d (.str name))), ("place", some (.d (.str pl))), ("other", some (.d (.str (otherOf pl))))], bookRs prog w B T G ++ [one prog w mo (.dTS (mdA M))]⟩
  have psh : SeqAt.shaped (.str pl) = true := by rcases hplc with h | h | h <;> rw [h] <;> decide +kernel
  generalize hv : Expr.Dict _ _ _ = dx
  refine ss_cut (fun D₁ => D₁ = W) ?_ ?_
  · refine s_assign (i := 7) ?_
    refine e_sub ?_
    subst hv
    refine e_dict (plS prog w) fun a => ?_
    refine pv_cons (plS prog w) <| e_str ⟨"infix", rfl, e_str ?_⟩
    refine pv_cons (plS prog w) <| e_str ⟨"postfix", rfl, e_str ?_⟩
    refine pv_cons (plS prog w) <| e_str ⟨"prefix", rfl, e_str ?_⟩
    refine pv_nil (plS prog w) ⟨6, by rfl, ?_⟩
    refine e_loc (i := 6) (by rfl) <| i_dict (plS prog w) (k := pl) (x := .d (.str (otherOf pl))) (i := 6) (by rfl) ?_ ⟨⟨_, by rfl⟩, _, to_of, rfl⟩
    rcases hplc with h | h | h <;> rw [h] <;> rfl
  refine w_eq ?_
  have endC : ∀ (mm : Lc) (r : Addr) (junk : List Reg), barL M pr tt name = some ("create" : Str) → FnEnd (bookRs prog w B T G ++ [one prog w mo (.dTS (mdA M))])
      (fun av rs' nw => ∃ r, av = .v (.ref r) ∧ rs' = bookRs prog w B T G ++ [one prog w mo (.dTS (mdA M))] ∧ nw = [one prog w r (.list ((barLst (barL M pr tt name) item).map .d))])
      (.ret (.v (.ref r))) ⟨mm, (bookRs prog w B T G ++ [one prog w mo (.dTS (mdA M))]) ++ junk ++ [one prog w r (.list [.d (.str "create"), .d (.str "operator"), .d item.py])]⟩ := fun mm r junk e =>
    ⟨bookRs prog w B T G ++ [one prog w mo (.dTS (mdA M))], [one prog w r (.list ((barLst (barL M pr tt name) item).map .d))], junk, by
      rw [e]
      show List.Perm ((bookRs prog w B T G ++ [one prog w mo (.dTS (mdA M))]) ++ junk ++ [one prog w r (.list ((barLst (some "create") item).map .d))]) _
      rw [List.append_assoc, List.append_assoc (bookRs prog w B T G ++ [one prog w mo (.dTS (mdA M))])]
      exact List.Perm.append_left _ List.perm_append_comm, rfl, r, rfl, rfl, rfl⟩
  refine ss_cons <| s_if <| b_cmp <| e_loc (i := 5) (by rfl) <| e_list <| l_cons <| e_str <| l_cons <| e_str <| l_nil ⟨by decide, fun q => ?_⟩
  refine o_inList (i := 6) (xs := ["[]", "{}"]) (by rfl) ⟨_, rfl, fun h2 => ?_, fun h2 => ?_⟩
  · refine ss_cons <| s_ret <| e_list <| l_cons <| e_str <| l_cons <| e_str <| l_cons <| e_loc (i := 4) (by rfl) <| l_nil ⟨by simp, fun r => ?_⟩
    have h2' : name = "[]" ∨ name = "{}" := by
      simp only [List.any_cons, List.any_nil, Bool.or_false, Bool.or_eq_true, beq_iff_eq] at h2
      exact h2.imp Eq.symm Eq.symm
    exact endC _ r [_] (by unfold barL; rw [if_neg n1, if_pos h2'])
  have n2 : ¬ (name = "[]" ∨ name = "{}") := by
    rintro (h | h) <;> subst h <;> simp at h2
  refine ss_nil ?_
  have shI : SeqAt.shaped (.str "infix") = true := by decide +kernel
  refine ss_cut (fun D₁ => ¬ (name = "|" ∧ (pl ≠ "infix" ∨ (0 < pr ∧ pr < 1001))) ∧ D₁ = W) ?_ ?_
  · refine s_if <| b_bool <| b_and <| b_cmp <| e_loc (i := 5) (by rfl) <| e_str <| o_eq hns (by decide +kernel) ⟨name == "|", rfl, fun h3 => ?_, fun h3 => ⟨fun e => absurd e Bool.false_ne_true, fun _ => ss_nil ⟨W, to_of, fun ⟨e, _⟩ => by rw [e] at h3; simp at h3, rfl⟩⟩⟩
    have e3 : name = "|" := by simpa using h3
    have ret : ∀ D₁ : DS, (pl ≠ "infix" ∨ (0 < pr ∧ pr < 1001)) → barL M pr tt name = some ("create" : Str) := fun _ h => by
      unfold barL; rw [hpl, if_neg n1, if_neg n2, if_pos ⟨e3, h⟩]
    refine b_and <| b_bool <| b_or <| b_cmp <| e_loc (i := 6) (by rfl) <| e_str <| o_ne psh shI ⟨!(pl == "infix"), rfl, fun h4 => ⟨fun _ => ?_, fun e => absurd e.symm Bool.false_ne_true⟩, fun h4 => ?_⟩
    · refine b_and_nil ⟨fun _ => ?_, fun e => absurd e.symm Bool.false_ne_true⟩
      refine ss_cons <| s_ret <| e_list <| l_cons <| e_str <| l_cons <| e_str <| l_cons <| e_loc (i := 4) (by rfl) <| l_nil ⟨by simp, fun r => ?_⟩
      exact endC _ r [_] (ret W (.inl (by simpa using h4)))
    have e4 : pl = "infix" := by simpa using h4
    refine b_or <| b_chain <| e_int <| e_loc (i := 2) (by rfl) <| o_lt ⟨_, rfl, fun h5 => ?_, fun h5 => e_int <| o_lt ⟨_, rfl, fun h6 => ?_, fun h6 => ?_⟩⟩
    · refine ⟨fun e => absurd e Bool.false_ne_true, fun _ => b_or_nil ⟨fun e => absurd e Bool.false_ne_true, fun _ => ⟨fun e => absurd e Bool.false_ne_true, fun _ => ss_nil ⟨W, to_of, ?_, rfl⟩⟩⟩⟩
      rintro ⟨_, h | ⟨h, _⟩⟩
      · exact h e4
      · exact of_decide_eq_false h5 h
    · refine ⟨fun _ => ?_, fun e => absurd e.symm Bool.false_ne_true⟩
      refine b_and_nil ⟨fun _ => ?_, fun e => absurd e.symm Bool.false_ne_true⟩
      refine ss_cons <| s_ret <| e_list <| l_cons <| e_str <| l_cons <| e_str <| l_cons <| e_loc (i := 4) (by rfl) <| l_nil ⟨by simp, fun r => ?_⟩
      exact endC _ r [_] (ret W (.inr ⟨of_decide_eq_true h5, of_decide_eq_true h6⟩))
    · refine b_or_nil ⟨fun e => absurd e Bool.false_ne_true, fun _ => ⟨fun e => absurd e Bool.false_ne_true, fun _ => ss_nil ⟨W, to_of, ?_, rfl⟩⟩⟩
      rintro ⟨_, h | ⟨_, h⟩⟩
      · exact h e4
      · exact of_decide_eq_false h6 h
  refine w_eq' fun n3 => ?_
  refine ss_cut (fun D₁ => ¬ (0 < pr ∧ (at_ M (otherOf pl, name)).isSome) ∧ D₁ = W) ?_ ?_
  · refine s_if <| b_bool <| b_and <| b_cmp <| e_loc (i := 2) (by rfl) <| e_int <| o_gt ⟨_, rfl, fun h5 => ?_, fun h5 => ⟨fun e => absurd e Bool.false_ne_true, fun _ => ss_nil ⟨W, to_of, fun ⟨h, _⟩ => of_decide_eq_false h5 h, rfl⟩⟩⟩
    refine b_and <| b_cmp ?_
    refine e_tuple ?_
    refine l_cons <| e_loc (i := 7) (by rfl) <| l_cons <| e_loc (i := 5) (by rfl) <| l_nil ⟨[.str (otherOf pl), .str name], rfl, by simp, ?_⟩
    refine e_loc (i := 1) (by rfl) <| o_inH (hpS prog w) (k := [otherOf pl, name]) (i := 5) (by rfl) ?_
    rw [at_md, Option.isSome_map]
    refine ⟨_, rfl, fun h6 => ?_, fun h6 => ⟨fun e => absurd e Bool.false_ne_true, fun _ => ss_nil ⟨W, to_of, fun ⟨_, h⟩ => (by rw [h] at h6; cases h6), rfl⟩⟩⟩
    refine b_and_nil ⟨fun _ => ?_, fun e => absurd e.symm Bool.false_ne_true⟩
    refine ss_cons <| s_ret <| e_list <| l_cons <| e_str <| l_cons <| e_str <| l_cons <| e_loc (i := 4) (by rfl) <| l_nil ⟨by simp, fun r => ?_⟩
    exact endC _ r [] (by unfold barL; rw [hpl, if_neg n1, if_neg n2, if_neg n3, if_pos ⟨of_decide_eq_true h5, h6⟩])
  refine w_eq' fun n4 => ?_
  refine ss_cons <| s_ret <| e_list <| l_nil ⟨by decide, fun r => ?_⟩
  have e : barL M pr tt name = none := by unfold barL; rw [hpl, if_neg n1, if_neg n2, if_neg n3, if_neg n4]
  exact ⟨bookRs prog w B T G ++ [one prog w mo (.dTS (mdA M))], [one prog w r (.list ((barLst (barL M pr tt name) item).map .d))], [], by rw [e]; exact .refl _, rfl, r, rfl, rfl, rfl⟩
end
end Mine
end
section
open PySem PySem.W
set_option maxRecDepth 100000
namespace Mine
/-- every text the book may ever hold -/
noncomputable def ALL : List Str := atoms0 ++ (["dynamic", "discontiguous", "\\=", "==", "\\==", "@<", "@=<", "@>", "@>=", "=..", "is", "=:=", "=\\=", "<", "=<", ">", ">=", "/\\", "\\/", "//", "rem", "mod", "div", "<<", ">>", "**", "\\"] : List Str) ++ ([
  "instantiation_error", "type_error", "domain_error", "permission_error", "integer", "atom", "list", "operator_priority", "operator_specifier", "modify", "create", "operator", "xyx", "f", "yfy", "fxf", "~", "op", "xfx", "xfy", "yfx", "fx", "fy", "xf", "yf"] : List Str)
structure GB (T : List Str) (G : List (Int × Int)) : Prop where
  pre : atoms0 <+: T
  nd : T.Nodup
  sub : ∀ x ∈ T, x ∈ ALL
  preG : G0 <+: G
  ndG : G.Nodup
  subG : ∀ p ∈ G, 0 ≤ p.1 ∧ p.1 < 200 ∧ 0 ≤ p.2 ∧ p.2 < 10
theorem nodup_len {α : Type} [DecidableEq α] : ∀ {l m : List α}, l.Nodup → (∀ x ∈ l, x ∈ m) → l.length ≤ m.length
  | [], m, _, _ => Nat.zero_le _
  | x :: l, m, nd, h => by
    rw [List.nodup_cons] at nd
    have := nodup_len (l := l) (m := m.erase x) nd.2 fun y hy => (List.mem_erase_of_ne (fun e => nd.1 (by rw [← e]; exact hy))).mpr (h y (.tail _ hy))
    rw [List.length_erase_of_mem (h x (.head _))] at this
    have : 0 < m.length := List.length_pos_of_mem (h x (.head _))
    simp only [List.length_cons]; omega
theorem ALL_len : ALL.length ≤ 200 := by decide +kernel
theorem ALL_shaped : ∀ x ∈ ALL, SeqAt.shaped (.str x) = true := by decide +kernel
theorem GB.lenT {T : List Str} {G : List (Int × Int)} (h : GB T G) : T.length ≤ 200 := Nat.le_trans (nodup_len (m := ALL) h.nd h.sub) ALL_len
theorem GB.shaped {T : List Str} {G : List (Int × Int)} (h : GB T G) : ∀ x ∈ T, SeqAt.shaped (.str x) = true := fun x hx => ALL_shaped x (h.sub x hx)
noncomputable def PRS : List (Int × Int) := (List.range 200).flatMap fun (i : Nat) => (List.range 10).map fun (j : Nat) => ((i : Int), (j : Int))
theorem PRS_len : PRS.length ≤ 2000 := by decide +kernel
theorem GB.lenG {T : List Str} {G : List (Int × Int)} (h : GB T G) : G.length ≤ 2000 := Nat.le_trans (nodup_len (m := PRS) h.ndG fun p hp => by
  obtain ⟨h1, h2, h3, h4⟩ := h.subG p hp
  refine List.mem_flatMap.mpr ⟨p.1.toNat, by simp; omega, List.mem_map.mpr ⟨p.2.toNat, by simp; omega, ?_⟩⟩
  exact Prod.ext (Int.toNat_of_nonneg h1) (Int.toNat_of_nonneg h3)) PRS_len
section
variable {α : Type} [DecidableEq α]
theorem addL_nodup {T : List α} (h : T.Nodup) (x : α) : (addL T x).Nodup := by
  unfold addL; split
  · exact h
  · rename_i n
    exact List.nodup_append.mpr ⟨h, by simp, fun a ha b hb e => n (by rw [List.mem_singleton.mp hb] at e; exact e ▸ ha)⟩
theorem addL_pre (T : List α) (x : α) : T <+: addL T x := by
  unfold addL; split
  · exact List.prefix_refl _
  · exact List.prefix_append _ _
theorem mem_addL {T : List α} {x y : α} : y ∈ addL T x ↔ y ∈ T ∨ y = x := by
  unfold addL; split
  · rename_i h; exact ⟨.inl, fun q => q.elim id fun e => e ▸ h⟩
  · simp
theorem addL_self {T : List α} {x : α} : x ∈ addL T x := mem_addL.mpr (.inr rfl)
theorem addL_of_mem {T : List α} {x : α} (h : x ∈ T) : addL T x = T := if_pos h
theorem ix_get {T : List α} {x : α} (h : x ∈ T) : T[ix T x]? = some x := by
  unfold ix
  have := List.idxOf_lt_length_iff.mpr h
  rw [List.getElem?_eq_getElem this, List.getElem_idxOf]
theorem ix_lt {T : List α} {x : α} (h : x ∈ T) : ix T x < T.length := List.idxOf_lt_length_iff.mpr h
theorem ix_pre {T T' : List α} {x : α} (p : T <+: T') (h : x ∈ T) : ix T' x = ix T x := by
  obtain ⟨t, rfl⟩ := p
  unfold ix
  rw [List.idxOf_append, if_pos h]
theorem ix_of_get {T : List α} {x : α} {n : Nat} (nd : T.Nodup) (h : T[n]? = some x) : ix T x = n := by
  have h1 := ix_get (List.mem_of_getElem? h)
  have h2 := (List.getElem?_eq_some_iff.mp h).1
  exact ((List.getElem?_inj h2 nd).mp (h.trans h1.symm)).symm
theorem pre_get {T T' : List α} (p : T <+: T') {n : Nat} {x : α} (h : T[n]? = some x) : T'[n]? = some x := by
  obtain ⟨t, rfl⟩ := p
  rw [List.getElem?_append_left (List.getElem?_eq_some_iff.mp h).1]; exact h
end
theorem GB.addT {T : List Str} {G : List (Int × Int)} (h : GB T G) {x : Str} (hx : x ∈ ALL) : GB (addL T x) G :=
  ⟨h.pre.trans (addL_pre T x), addL_nodup h.nd x, fun y hy => (mem_addL.mp hy).elim (h.sub y) fun e => e ▸ hx, h.preG, h.ndG, h.subG⟩
theorem GB.addG {T : List Str} {G : List (Int × Int)} (h : GB T G) {p : Int × Int} (hp : 0 ≤ p.1 ∧ p.1 < 200 ∧ 0 ≤ p.2 ∧ p.2 < 10) : GB T (addL G p) :=
  ⟨h.pre, h.nd, h.sub, h.preG.trans (addL_pre G p), addL_nodup h.ndG p, fun y hy => (mem_addL.mp hy).elim (h.subG y) fun e => e ▸ hp⟩
theorem GB.func {T : List Str} {G : List (Int × Int)} (h : GB T G) {x : Str} (hx : x ∈ ALL) {n : Int} (h0 : 0 ≤ n) (h1 : n < 10) : GB (addL T x) (addL G ((ix (addL T x) x : Nat), n)) := by
  have h2 := h.addT hx
  have h3 := ix_lt (T := addL T x) addL_self
  have h4 := h2.lenT
  exact h2.addG ⟨by show 0 ≤ ((ix (addL T x) x : Nat) : Int); omega, by show ((ix (addL T x) x : Nat) : Int) < 200; omega, h0, h1⟩
theorem pfold_pre : ∀ (parts : List PyData) (T : List Str), T <+: (pfold T parts).2
  | [], T => List.prefix_refl _
  | d :: r, T => by
    have ih := pfold_pre r (pstep T d).2
    refine List.IsPrefix.trans ?_ ih
    unfold pstep; split
    · exact addL_pre ..
    · exact List.prefix_refl _
theorem GB.pfold {G : List (Int × Int)} : ∀ (parts : List PyData) {T : List Str}, GB T G → (∀ x, .str x ∈ parts → x ∈ ALL) → GB (pfold T parts).2 G
  | [], T, h, _ => h
  | d :: r, T, h, hx => by
    refine GB.pfold r (T := (pstep T d).2) ?_ fun x hr => hx x (.tail _ hr)
    unfold pstep; split
    · exact h.addT (hx _ (.head _))
    · exact h
theorem pfold_stable : ∀ (parts : List PyData) (T T' : List Str), (pfold T parts).2 <+: T' → pfold T' parts = ((pfold T parts).1, T')
  | [], T, T', _ => rfl
  | d :: r, T, T', h => by
    have h1 : (pstep T d).2 <+: T' := (pfold_pre r (pstep T d).2).trans h
    have e : pstep T' d = ((pstep T d).1, T') := by
      unfold pstep
      split
      · rename_i x
        have hm : x ∈ addL T x := addL_self
        have h1' : addL T x <+: T' := h1
        have hm' : x ∈ T' := h1'.subset hm
        rw [addL_of_mem hm', ix_pre h1' hm]
      · rfl
    show ((pstep T' d).1 :: (pfold (pstep T' d).2 r).1, (pfold (pstep T' d).2 r).2) = _
    rw [e, pfold_stable r (pstep T d).2 T' h]
    rfl
theorem GB.formal {T : List Str} {G : List (Int × Int)} (h : GB T G) {name : Str} {parts : List PyData} (hn : name ∈ ALL) (hp : parts.length < 10) (hx : ∀ x, .str x ∈ parts → x ∈ ALL) :
    GB (formal T G name parts).2.1 (formal T G name parts).2.2 ∧ T <+: (formal T G name parts).2.1 ∧ G <+: (formal T G name parts).2.2 :=
  ⟨(GB.pfold parts h hx).func hn (by omega) (by omega), (pfold_pre parts T).trans (addL_pre ..), addL_pre ..⟩
theorem formal_twice (T : List Str) (G : List (Int × Int)) (name : Str) (parts : List PyData) : Mine.formal (Mine.formal T G name parts).2.1 (Mine.formal T G name parts).2.2 name parts = Mine.formal T G name parts := by
  have hn : name ∈ addL (Mine.pfold T parts).2 name := addL_self
  have e1 := pfold_stable parts T (addL (Mine.pfold T parts).2 name) (addL_pre ..)
  have e2 := addL_of_mem hn
  unfold Mine.formal
  simp only
  rw [e1]
  simp only
  rw [e2, addL_of_mem addL_self]
noncomputable def Er.sane : Er → Prop
  | .inst => True
  | .ty k c => k ∈ ALL ∧ ∃ xs, c = .tuple xs
  | .dom k c => k ∈ ALL ∧ ∃ xs, c = .tuple xs
  | .perm a k c => a ∈ ALL ∧ k ∈ ALL ∧ ∃ xs, c = .tuple xs
theorem ALL_mem : (∀ x ∈ (["instantiation_error", "type_error", "domain_error", "permission_error", "integer", "atom", "list", "operator_priority", "operator_specifier", "modify", "create", "operator", "f"] : List Str), x ∈ ALL) := by decide +kernel
theorem GB.out {T : List Str} {G : List (Int × Int)} (h : GB T G) {e : Er} (he : e.sane) : GB (e.out T G).2.1 (e.out T G).2.2 ∧ T <+: (e.out T G).2.1 ∧ G <+: (e.out T G).2.2 := by
  cases e with
  | inst => exact ⟨h.addT (ALL_mem _ (by simp)), addL_pre .., List.prefix_refl _⟩
  | ty k c =>
    obtain ⟨h1, xs, rfl⟩ := he
    exact h.formal (ALL_mem _ (by simp)) (by simp) fun x hx => by simp at hx; rw [hx]; exact h1
  | dom k c =>
    obtain ⟨h1, xs, rfl⟩ := he
    exact h.formal (ALL_mem _ (by simp)) (by simp) fun x hx => by simp at hx; rw [hx]; exact h1
  | perm a k c =>
    obtain ⟨h1, h2, xs, rfl⟩ := he
    exact h.formal (ALL_mem _ (by simp)) (by simp) fun x hx => by
      simp at hx
      rcases hx with rfl | rfl
      · exact h1
      · exact h2
theorem Er.out_twice (T : List Str) (G : List (Int × Int)) (e : Er) : e.out (e.out T G).2.1 (e.out T G).2.2 = e.out T G := by
  cases e with
  | inst =>
    show (PyData.tuple [.str "a", .int (ix (addL (addL T "instantiation_error") "instantiation_error") "instantiation_error" : Nat)], addL (addL T "instantiation_error") "instantiation_error", G) = _
    rw [addL_of_mem (T := addL T ("instantiation_error" : Str)) addL_self]
    rfl
  | ty k c => exact formal_twice ..
  | dom k c => exact formal_twice ..
  | perm a k c => exact formal_twice ..
end Mine
end
section
open PySem PySem.W
set_option maxRecDepth 100000
namespace Mine
/-- a dict, by its entries -/
noncomputable def DE (h : Heap) (d : Addr) (es : Array DictEntry) (ep : Nat) : Prop := ∃ o, h.get? d = some o ∧ o.ExactDict ∧ o.data = .dict es ep
inductive RE (h : Heap) : List DictEntry → List (AV × AV) → Prop
  | nil : RE h [] []
  | cons {e : DictEntry} {k a : AV} {es : List DictEntry} {kvs : List (AV × AV)} : Rv h e.key k → Rv h e.val a → RE h es kvs → RE h (e :: es) ((k, a) :: kvs)
theorem RE.le {h h' : Heap} (k : Le h h') {es : List DictEntry} {kvs : List (AV × AV)} (x : RE h es kvs) : RE h' es kvs := by
  induction x with
  | nil => exact .nil
  | cons a b _ ih => exact .cons (a.le k) (b.le k) ih
theorem RE.length {h : Heap} {es : List DictEntry} {kvs : List (AV × AV)} (x : RE h es kvs) : es.length = kvs.length := by
  induction x with
  | nil => rfl
  | cons _ _ _ ih => simp [ih]
theorem RE.get {h : Heap} {es : List DictEntry} {kvs : List (AV × AV)} (x : RE h es kvs) : ∀ {i : Nat} {e : DictEntry}, es[i]? = some e → ∃ p, kvs[i]? = some p ∧ Rv h e.key p.1 ∧ Rv h e.val p.2 := by
  induction x with
  | nil => intro i e h; simp at h
  | cons a b _ ih =>
    intro i e h
    cases i with
    | zero => simp at h; subst h; exact ⟨_, rfl, a, b⟩
    | succ i => simp at h; obtain ⟨p, h1, h2⟩ := ih h; exact ⟨p, by simpa using h1, h2⟩
/-- a dict whose entries are gone through -/
noncomputable def pinR (prog : Program) (w : World) (d : Addr) (o : MO) (ep : Nat) (kvs : List (AV × AV)) : Reg where
  foot := [d]
  P := fun h => RO prog w h d o ∧ ∃ es, DE h d es ep ∧ RE h es.toList kvs
  loc := fun k e ⟨a, es, ⟨ob, b, c⟩, r⟩ => ⟨RO.mono k (e d (by simp)) a, es, ⟨ob, e d (by simp) _ b, c⟩, r.le k⟩
  live := fun x b hb => by rw [List.mem_singleton.mp hb]; exact RO.notTp x.1
noncomputable def kvI (kvs : List (Int × AV)) : List (AV × AV) := kvs.map fun kv => (.d (.int kv.1), kv.2)
noncomputable def kvTS (kvs : List (List Str × AV)) : List (AV × AV) := kvs.map fun kv => (.d (.tuple (kv.1.map .str)), kv.2)
theorem pin_I {prog : Program} {w : World} {h : Heap} {d : Addr} {kvs : List (Int × AV)} (x : RO prog w h d (.dI kvs)) : ∃ ep, (pinR prog w d (.dI kvs) ep (kvI kvs)).P h := by
  obtain ⟨xs, ⟨o, es, ep, ho, hx, hd, hk, hp, hn⟩, e1, e2⟩ := id x
  refine ⟨ep, x, es, ⟨o, ho, hx, hd⟩, ?_⟩
  have kr : KR h xs kvs := .of e1 e2
  clear e1 e2 hn hk hd ho hx x
  generalize es.toList = l at hp
  induction hp generalizing kvs with
  | nil => cases kr; exact .nil
  | @cons e kv l xs h1 h2 _ ih =>
    obtain ⟨k, v⟩ := kv
    cases kr with
    | cons r kr =>
      have h1' : e.key.isInt k = true := h1
      obtain ⟨t, ht⟩ := Value.isInt_shape h1'
      exact .cons (by rw [ht]; exact .d (.int _ _)) (by rw [h2]; exact r) (ih kr)
theorem pin_TS {prog : Program} {w : World} {h : Heap} {d : Addr} {kvs : List (List Str × AV)} (x : RO prog w h d (.dTS kvs)) : ∃ ep, (pinR prog w d (.dTS kvs) ep (kvTS kvs)).P h := by
  obtain ⟨xs, ⟨o, es, ep, ho, hx, hd, hes, hk, hn⟩, e1, e2⟩ := id x
  refine ⟨ep, x, es, ⟨o, ho, hx, hd⟩, ?_⟩
  have kr : KRH h xs kvs := .of e1 e2
  rw [hes]
  clear e1 e2 hn hes hd ho hx x
  induction kr with
  | nil => exact .nil
  | @cons k p v a xs kvs r _ ih =>
    refine .cons ?_ r (ih fun y hy => hk y (.tail _ hy))
    obtain ⟨o', items, n, g1, g2, g3, g4⟩ := hk _ (.head _)
    exact .d (.tuple g1 g2 g3 ((hpS prog w).back g4))
noncomputable def viewR (v d : Addr) : Reg := objR v (fun o => o.cls = .type "dict_items" ∧ o.data = .fields #[.ref d]) fun o h => notTp_cls h.1
noncomputable def itemR (I d : Addr) (i n ep : Nat) : Reg := objR I (fun o => ∃ ok ov, o = { cls := .type "dict_itemiterator", dict := none, data := .fields #[.none, .bool false, .ref d, .int i 0, .int n 0, .int ep 0, ok, ov], slots := #[] }) fun o ⟨_, _, h⟩ => by subst h; exact notTp_cls rfl
section
variable {prog : Program} {w : World} {C : Cx w} {E : Value → Shared → Prop} {D : DS} {env : Env} {pos : Pos} {A : Around} {s : Shared}
theorem DE.typeIs {d : Addr} {es : Array DictEntry} {ep : Nat} (x : DE s.heap d es ep) : s.TypeIs (.ref d) "dict" := let ⟨o, ho, hc, _⟩ := x; ⟨o, ho, hc.1⟩
theorem items_call {d : Addr} {Q : Value → Shared → Prop} (hT : s.TypeIs (.ref d) "dict") (hd : (d == sysModules) = false) (h : Q (.ref s.heap.objs.size) { s with heap := s.heap.push { cls := .type "dict_items", data := .fields #[.ref d] } }) :
    wpAny (model prog w) A (call (.builtin "dict.items") [.ref d]) Q E s := by
  refine wpAny_call_entry PySem.F.slot_dict_items hT PySem.F.entry_dict_items ?_ (PySem.F.args_dict_items_1 _)
  unfold Builtin.«dict.items» Builtin.Dict.noArgs
  refine wpAny_bind (wpAny_bind (wpAny_notOrdered_dict hT (wpAny_pure ?_)))
  show wpAny _ _ (Builtin.Dict.showsAll d >>= _) _ _ s
  unfold Builtin.Dict.showsAll
  rw [if_neg (by rw [hd]; exact Bool.false_ne_true)]
  exact wpAny_bind (wpAny_pure (wpAny_bind (wpAny_newObj_type (wpAny_pure ⟨_, rfl, h⟩))))
theorem items_iter {v d : Addr} {es : Array DictEntry} {ep : Nat} {Q : Value → Shared → Prop} (hv : s.heap.IsItemsView v d) (hm : DE s.heap d es ep)
    (hQ : Q (.ref s.heap.objs.size) { s with heap := s.heap.push { cls := .type "dict_itemiterator", data := .fields #[.none, .bool false, .ref d, .int 0 0, .int es.size 0, .int ep 0, .none, .none] } }) : wpAny (model prog w) A (pyIter (.ref v)) Q E s := by
  obtain ⟨ov, hov, hcv, hdv⟩ := id hv
  obtain ⟨o, ho, hc, hdat⟩ := id hm
  refine wpAny_pyIter_slot hv.typeIs PySem.F.slot_dict_items_iter (wpAny_call_entry PySem.F.slot_dict_items_iter hv.typeIs PySem.F.entry_dict_items_iter ?_ (PySem.F.args_dict_items_iter_1 _))
  unfold Builtin.«dict_items.__iter__»
  refine wpAny_bind (wpAny_pure (wpAny_bind ?_))
  unfold Builtin.Dict_items.dictOf
  refine wpAny_bind (wpAny_field hov hdv (x := .ref d) rfl (wpAny_pure (wpAny_bind ?_)))
  unfold Builtin.Dict_items.newIterator
  refine wpAny_bind (wpAny_dictEntries ho hdat (wpAny_bind (wpAny_dictEpoch ho hdat ?_)))
  have hown : Builtin.Dict_items.ownsTuple "dict_itemiterator" = true := by decide
  simp only [hown, if_true]
  refine wpAny_newObj_type (wpAny_pure ⟨_, rfl, "dict_itemiterator", _, ⟨_, Heap.get?_push_size _ rfl, rfl⟩, PySem.F.slot_dict_itemiterator_next.lookup, ?_⟩)
    (by simp only [sizeOk, Builtin.Dict_items.ownedTupleFields, List.size_toArray, List.length_append, List.length_cons, List.length_nil, sizeLine_eq]; omega)
  simpa [rawInt, Builtin.Dict_items.ownedTupleFields] using hQ
end
end Mine
end
section
open PySem PySem.W
set_option maxRecDepth 100000
namespace Mine
section
variable {prog : Program} {w : World} {C : Cx w} {E : Value → Shared → Prop} {D : DS} {env : Env} {pos : Pos} {A : Around} {s : Shared}
theorem items_next {it d : Addr} {i ep : Nat} {es : Array DictEntry} {e : DictEntry} {ok ov : Value} {Q : Option Value → Shared → Prop} (hit : IsItemIter s.heap it d i es.size ep ok ov)
    (hm : DE s.heap d es ep) (hx : es[i]? = some e)
    (hQ : ∀ h', IsItemIterOut h' it d (i + 1) es.size ep e.key e.val s.heap.objs.size → h'.get? s.heap.objs.size = some { cls := .type "tuple", data := .seq #[e.key, e.val] } →
      (∀ b o, b ≠ it → s.heap.get? b = some o → h'.get? b = some o) → Q (some (.ref s.heap.objs.size)) { s with heap := h' }) :
    wpAny (model prog w) A (pyNext (.ref it)) Q E s := by
  obtain ⟨hp, g, dr, tk, os⟩ := s
  obtain ⟨od, hod, hcd, hdd⟩ := id hm
  have hT : Shared.TypeIs ⟨hp, g, dr, tk, os⟩ (.ref it) "dict_itemiterator" := ⟨_, hit, rfl⟩
  have hown : Builtin.Dict_items.ownsTuple "dict_itemiterator" = true := by decide
  have hlt : i < es.size := (Array.getElem?_eq_some_iff.mp hx).1
  unfold pyNext
  refine wpAny_bind (wpAny_attempt (wpAny_callSpecial?_slot (name := Str.ofString "__next__") hT PySem.F.slot_dict_itemiterator_next
    (wpAny_call_entry PySem.F.slot_dict_itemiterator_next hT PySem.F.entry_dict_itemiterator_next ?_ (PySem.F.args_dict_itemiterator_next_1 _))))
  refine wpAny_bind (wpAny_pure (wpAny_bind (wpAny_bind ?_)))
  refine wpAny_bind (wpAny_typeNameOfWhole_itemiter hT (wpAny_pure ?_))
  refine wpAny_bind (wpAny_fieldsOf hit rfl ?_)
  simp only [hown, if_true]
  show wpAny _ _ (if (Value.ref d == Value.none) = true then _ else _) _ _ _
  rw [if_neg (show ¬ ((Value.ref d == Value.none) = true) from Bool.false_ne_true)]
  refine wpAny_bind (wpAny_pure (wpAny_bind (wpAny_dictEntries hod hdd ?_)))
  rw [if_neg (by simp)]
  refine wpAny_bind (wpAny_pure (wpAny_bind (wpAny_dictEpoch hod hdd ?_)))
  rw [if_neg (by simp)]
  refine wpAny_pure ?_
  simp only [show ¬ ((i : Int) < 0) from by omega, if_false, Int.toNat_natCast, hx]
  refine wpAny_bind (wpAny_bind (wpAny_typeNameOfWhole_itemiter hT (wpAny_pure (wpAny_bind (wpAny_isOneOf_itemiter hT ?_)))))
  show wpAny _ _ (setField (.ref it) 3 (rawInt ((i : Int) + 1)) >>= _) _ _ ⟨hp, g, dr, tk, os⟩
  refine wpAny_bind (wpAny_setField_rec hit (by simp) fun h₁ he₁ hs₁ => ?_)
  have hs₁ : Heap.SameBut it hp h₁ := hs₁
  have he₁ : IsItemIter h₁ it d (i + 1) es.size ep ok ov := by
    have q : ((i + 1 : Nat) : Int) = (i : Int) + 1 := by omega
    unfold IsItemIter; rw [q]; simpa [rawInt] using he₁
  have hT₁ : Shared.TypeIs ⟨h₁, g, dr, tk, os⟩ (.ref it) "dict_itemiterator" := ⟨_, he₁, rfl⟩
  refine wpAny_bind (wpAny_holding (wpAny_bind (wpAny_isOneOf_itemiter hT₁ (wpAny_bind (wpAny_isOneOf_itemiter hT₁ ?_)))))
  show wpAny _ _ (Builtin.Dict_items.pairFromOwner (.ref it) 6 e.key e.val) _ _ ⟨h₁, g, dr, tk, os⟩
  unfold Builtin.Dict_items.pairFromOwner
  refine wpAny_bind (wpAny_newTuple ?_)
  have he₂ : IsItemIter (h₁.push { cls := .type "tuple", data := .seq #[e.key, e.val] }) it d (i + 1) es.size ep ok ov := Heap.get?_push_of_some _ he₁
  have hz₁ : h₁.objs.size = hp.objs.size := hs₁.1
  have hil : it < hp.objs.size := Heap.lt_size hit
  generalize hh₂ : h₁.push { cls := .type "tuple", data := .seq #[e.key, e.val] } = h₂ at he₂ ⊢
  have ht₂ : h₂.get? hp.objs.size = some { cls := .type "tuple", data := .seq #[e.key, e.val] } := by rw [← hh₂, ← hz₁]; exact Heap.get?_push_size _ rfl
  have hk₂ : ∀ b o, b ≠ it → hp.get? b = some o → h₂.get? b = some o := fun b o hb q => by rw [← hh₂]; exact Heap.get?_push_of_some _ (hs₁.extBut b o hb q)
  show wpAny _ _ (Builtin.Dict_items.ownedTupleIsFree (.ref it) >>= _) _ _ ⟨h₂, g, dr, tk, os⟩
  rw [hz₁]
  refine wpAny_bind ?_
  unfold Builtin.Dict_items.ownedTupleIsFree
  refine wpAny_bind (wpAny_field he₂ rfl (x := .none) rfl (wpAny_pure ?_))
  simp only [if_true]
  refine wpAny_bind (wpAny_field he₂ rfl (x := ok) rfl (wpAny_bind (wpAny_field he₂ rfl (x := ov) rfl ?_)))
  refine wpAny_bind (wpAny_setField_rec he₂ (by simp) fun h₃ he₃ hs₃ => ?_)
  have hs₃ : Heap.SameBut it h₂ h₃ := hs₃
  refine wpAny_bind (wpAny_setField_rec he₃ (by simp) fun h₄ he₄ hs₄ => ?_)
  have hs₄ : Heap.SameBut it h₃ h₄ := hs₄
  refine wpAny_bind (wpAny_setField_rec he₄ (by simp) fun h₅ he₅ hs₅ => ?_)
  have hs₅ : Heap.SameBut it h₄ h₅ := hs₅
  refine wpAny_bind (wpAny_setField_rec he₅ (by simp) fun h₆ he₆ hs₆ => ?_)
  have hs₆ : Heap.SameBut it h₅ h₆ := hs₆
  refine wpAny_bind (wpAny_letGo (wpAny_pure (wpAny_pure ⟨_, rfl, wpAny_pure (hQ h₆ he₆ ?_ ?_)⟩)))
  · exact hs₆.extBut _ _ (Nat.ne_of_gt hil) (hs₅.extBut _ _ (Nat.ne_of_gt hil) (hs₄.extBut _ _ (Nat.ne_of_gt hil) (hs₃.extBut _ _ (Nat.ne_of_gt hil) ht₂)))
  · exact fun b o hb q => hs₆.extBut b o hb (hs₅.extBut b o hb (hs₄.extBut b o hb (hs₃.extBut b o hb (hk₂ b o hb q))))
theorem items_end {it d : Addr} {i ep : Nat} {es : Array DictEntry} {ok ov : Value} {Q : Option Value → Shared → Prop} (hh : A.handled = none) (hit : IsItemIter s.heap it d i es.size ep ok ov)
    (hm : DE s.heap d es ep) (hx : es[i]? = none) (hQ : ∀ h', Heap.ExtBut it s.heap h' → Q none { s with heap := h' }) : wpAny (model prog w) A (pyNext (.ref it)) Q E s := by
  obtain ⟨od, hod, hcd, hdd⟩ := id hm
  have hT : s.TypeIs (.ref it) "dict_itemiterator" := ⟨_, hit, rfl⟩
  have hown : Builtin.Dict_items.ownsTuple "dict_itemiterator" = true := by decide
  unfold pyNext
  refine wpAny_bind (wpAny_attempt (wpAny_callSpecial?_slot (name := Str.ofString "__next__") hT PySem.F.slot_dict_itemiterator_next
    (wpAny_call_entry PySem.F.slot_dict_itemiterator_next hT PySem.F.entry_dict_itemiterator_next ?_ (PySem.F.args_dict_itemiterator_next_1 _))))
  refine wpAny_bind (wpAny_pure (wpAny_bind (wpAny_bind ?_)))
  refine wpAny_bind (wpAny_typeNameOfWhole_itemiter hT (wpAny_pure ?_))
  refine wpAny_bind (wpAny_fieldsOf hit rfl ?_)
  simp only [hown, if_true]
  show wpAny _ _ (if (Value.ref d == Value.none) = true then _ else _) _ _ s
  rw [if_neg (show ¬ ((Value.ref d == Value.none) = true) from Bool.false_ne_true)]
  refine wpAny_bind (wpAny_pure (wpAny_bind (wpAny_dictEntries hod hdd ?_)))
  rw [if_neg (by simp)]
  refine wpAny_bind (wpAny_pure (wpAny_bind (wpAny_dictEpoch hod hdd ?_)))
  rw [if_neg (by simp)]
  refine wpAny_pure ?_
  simp only [show ¬ ((i : Int) < 0) from by omega, if_false, Int.toNat_natCast, hx]
  refine wpAny_bind (wpAny_bind (wpAny_typeNameOfWhole_itemiter hT (wpAny_pure ?_)))
  show wpAny _ _ (setField (.ref it) 2 .none >>= _) _ _ s
  refine wpAny_bind (wpAny_setField hit rfl (by simp) ?_)
  show wpAny _ _ (newExc (.type "StopIteration") [] >>= _) _ _ _
  refine wpAny_bind ?_
  simp only [newExc, newTuple]
  refine wpAny_bind (wpAny_newObj_type ?_ (by size_fits))
  refine wpAny_bind (m := firstArgMember _ _) (wpAny_of_eq (a := Value.none) (by first | rfl | (simp only [firstArgMember]; rfl)) ?_)
  refine wpAny_newObj_type ?_ (by size_fits)
  simp only [raiseNew]
  refine wpAny_bind (wpAny_handled ?_)
  rw [show A.in1.handled = none from hh]
  refine wpAny_bind (wpAny_pure (wpAny_throw ?_))
  refine wpAny_bind (wpAny_isInstance (T := "StopIteration") (b := true) ⟨_, Heap.get?_push_size _ rfl, rfl⟩ isSubtype_stop ?_)
  exact wpAny_pure (hQ _ (((Heap.SameBut.update ..).extBut.push _).push _))
end
end Mine
end
section
open PySem PySem.W
set_option maxRecDepth 100000
namespace Mine
section
variable {prog : Program} {w : World} {C : Cx w} {E : Value → Shared → Prop} {D : DS} {env : Env} {pos : Pos}
theorem viewR_is {v d : Addr} {s : Shared} (x : (viewR v d).P s.heap) : s.heap.IsItemsView v d := let ⟨o, h1, h2, h3⟩ := x; ⟨o, h1, h2, h3⟩
/-- the view of a dict -/
theorem ol_items {i : Nat} {r : Reg} {a : Addr} {Q : AV → DS → Prop} (hi : D.rs[i]? = some r) (ha : a ∈ r.foot) (hT : ∀ s : Shared, r.P s.heap → s.TypeIs (.ref a) "dict") (h : ∀ v, Q (.v (.ref v)) ⟨D.m, D.rs ++ [viewR v a]⟩) :
    OL prog w C E Rv (fun vs => call (.builtin "dict.items") vs) [.v (.ref a)] D Q := fun s us d r' => by
  cases r' with
  | cons r1 r' => cases r' with
    | nil =>
      obtain rfl := r1.v_
      exact items_call (hT s (d.regs _ (mem_of_get hi))) (d.notSys hi ha) (.intro (d.new (viewR s.heap.objs.size a) (tk := s.toks) (push_keeps _ _) (push_size _ _) ⟨_, Heap.get?_push_size _ rfl, rfl, rfl⟩ (by simp [viewR, objR]) (by simp [viewR, objR])) (.v _) (h _))
/-- it is gone through -/
theorem oi_items {i j : Nat} {v a : Addr} {mo : MO} {kvs : List (AV × AV)} {Q : AV → DS → Prop} (hi : D.rs[i]? = some (viewR v a)) (hj : D.rs[j]? = some (one prog w a mo)) (hp : ∀ h, RO prog w h a mo → ∃ ep, (pinR prog w a mo ep kvs).P h)
    (h : ∀ I ep, Q (.v (.ref I)) ⟨D.m, D.rs.set j (pinR prog w a mo ep kvs) ++ [itemR I a 0 kvs.length ep]⟩) : O1 prog w C E Rv pyIter (.v (.ref v)) D Q := o1v fun s d => by
  obtain ⟨ep, hpin⟩ := hp s.heap (d.regs _ (mem_of_get hj))
  have d1 : Den C ⟨D.m, D.rs.set j (pinR prog w a mo ep kvs)⟩ s := by
    refine ⟨d.nxt, d.base, d.keep, d.size, d.ns, fun x hx => ?_, ?_, fun b hb => d.fresh b ?_⟩
    · rcases List.mem_or_eq_of_mem_set hx with hx | rfl
      · exact d.regs x hx
      · exact hpin
    · show (C.L :: feet (D.rs.set j _)).Nodup
      rw [feet_set hj (r' := pinR prog w a mo ep kvs) rfl]; exact d.nodup
    · have hb : b ∈ C.L :: feet (D.rs.set j (pinR prog w a mo ep kvs)) := hb
      rw [feet_set hj (r' := pinR prog w a mo ep kvs) rfl] at hb; exact hb
  obtain ⟨_, es, hde, hre⟩ := hpin
  have hz : es.size = kvs.length := by rw [← hre.length, Array.length_toList]
  refine items_iter (viewR_is (d.regs _ (mem_of_get hi))) hde ?_
  rw [hz]
  exact .intro (d1.new (itemR s.heap.objs.size a 0 kvs.length ep) (tk := s.toks) (push_keeps _ _) (push_size _ _) ⟨_, Heap.get?_push_size _ rfl, _, _, rfl⟩ (by simp [itemR, objR]) (by simp [itemR, objR])) (.v _) (h _ _)
/-- one turn -/
theorem itemTurn {elts : List Expr} {kk : Nat} {tp : Pos} {I a : Addr} {mo : MO} {ep k : Nat} {kvs : List (AV × AV)} {j : Nat} {s : Shared} (d : Den C D s) (hm : pinR prog w a mo ep kvs ∈ D.rs) (hj : D.rs[j]? = some (itemR I a k kvs.length ep)) :
    wpAny (model prog w) C.A (pyNext (.ref I)) (fun o s₁ => match o with
      | none => kvs[k]? = none ∧ Nxt s s₁ ∧ Den C ⟨D.m, D.rs.eraseIdx j⟩ s₁
      | some v => ∃ p, kvs[k]? = some p ∧ wpAny (model prog w) C.A (letOwnedTupleGo (.Tuple elts kk tp) (.ref I) v) (fun _ s₂ => Nxt s s₂ ∧ Rv s₂.heap v (.tup [p.1, p.2]) ∧ Den C ⟨D.m, D.rs.set j (itemR I a (k + 1) kvs.length ep)⟩ s₂) E s₁) E s := by
  obtain ⟨_, es, hde, hre⟩ := d.regs _ hm
  obtain ⟨o, ho, ok, ov, rfl⟩ := d.regs _ (mem_of_get hj)
  have hz : es.size = kvs.length := by rw [← hre.length, Array.length_toList]
  have hit : IsItemIter s.heap I a k es.size ep ok ov := by rw [hz]; exact ho
  have hI : I ∈ C.L :: feet D.rs := .tail _ (mem_feet.mpr ⟨_, mem_of_get hj, .head _⟩)
  cases hx : es[k]? with
  | none =>
    have hk : kvs[k]? = none := by
      rw [Array.getElem?_eq_none_iff] at hx
      rw [List.getElem?_eq_none_iff]; omega
    refine items_end C.handled hit hde hx fun h' hs' => ?_
    exact ⟨hk, d.drop hj (h' := h') (tk := s.toks) (fun b o q e => hs' b o (fun z => q (by subst z; exact .head _)) e)⟩
  | some e =>
    obtain ⟨p, hp, r1, r2⟩ := hre.get (i := k) (e := e) (by rw [Array.getElem?_toList]; exact hx)
    have hlt : k < es.size := (Array.getElem?_eq_some_iff.mp hx).1
    refine items_next hit hde hx fun h₁ heo htp hk₁ => ⟨p, hp, ?_⟩
    refine wpAny_letOwnedTupleGo_items heo fun h₂ he₂ hs₂ => ?_
    have hs₂ : Heap.SameBut I h₁ h₂ := hs₂
    have neI : s.heap.objs.size ≠ I := Nat.ne_of_gt (Heap.lt_size ho)
    have hk₂ : ∀ b o, b ≠ I → s.heap.get? b = some o → h₂.get? b = some o := fun b o q e => (hs₂.2 b q).trans (hk₁ b o q e)
    have nt : NotTp s.heap I := d.notTp hI
    have le : Le s.heap h₂ := fun b o q t => hk₂ b o (fun z => by
      subst z; obtain ⟨o', e', t'⟩ := nt; rw [q] at e'; cases e'; exact t' t) q
    have st := d.upd (tk := s.toks) hj (r' := itemR I a (k + 1) kvs.length ep) rfl (h' := h₂) (fun b o q e => hk₂ b o (fun z => q (by subst z; exact .head _)) e) (by
      have : s.heap.objs.size < h₂.objs.size := Heap.lt_size ((hs₂.2 _ neI).trans htp)
      exact Nat.le_of_lt this) ⟨_, by rw [hz] at he₂; exact he₂, _, _, rfl⟩
    refine ⟨st.1, ?_, st.2⟩
    exact .tup ((hs₂.2 _ neI).trans htp) rfl rfl (.cons (r1.le le) (.cons (r2.le le) .nil))
inductive JLD {w : World} (C : Cx w) (J : Nat → DS → Prop) (r : Reg) (k : Nat) (D : DS) : Prop
  | mk (D' : DS) (t : ∀ s, Den C D s → Den C ⟨D'.m, D'.rs ++ [r]⟩ s) (j : J k D') : JLD C J r k D
inductive ForIJ (prog : Program) (w : World) (C : Cx w) (E : Value → Shared → Prop) (target : Expr) (env : Env) (body : List Stmt) (Q : FL → DS → Prop) (I a : Addr) (mo : MO) (ep : Nat) (kvs : List (AV × AV)) (D : DS) : Prop
  | mk (J : Nat → DS → Prop) (hm : ∀ k D', J k D' → pinR prog w a mo ep kvs ∈ D'.rs) (h0 : JLD C J (itemR I a 0 kvs.length ep) 0 D)
    (step : ∀ k p D', kvs[k]? = some p → J k D' → AS prog C E target env (.tup [p.1, p.2]) ⟨D'.m, D'.rs ++ [itemR I a (k + 1) kvs.length ep]⟩ (GW prog w C E RF (execs body env) (LoopK (JLD C J (itemR I a (k + 1) kvs.length ep) (k + 1)) Q)))
    (hQ : ∀ D', J kvs.length D' → Q .next D') : ForIJ prog w C E target env body Q I a mo ep kvs D
inductive ForIK (prog : Program) (w : World) (C : Cx w) (E : Value → Shared → Prop) (target : Expr) (env : Env) (body : List Stmt) (Q : FL → DS → Prop) (ia : AV) (D : DS) : Prop
  | mk (I a : Addr) (mo : MO) (ep : Nat) (kvs : List (AV × AV)) (e : ia = .v (.ref I)) (h : ForIJ prog w C E target env body Q I a mo ep kvs D) : ForIK prog w C E target env body Q ia D
/-- a for over the items of a dict -/
theorem s_forI {elts : List Expr} {kk : Nat} {tp : Pos} {iter : Expr} {body : List Stmt} {Q : FL → DS → Prop}
    (h : EV prog w C E (eval iter env) D (P1 prog w C E Rv pyIter (ForIK prog w C E (.Tuple elts kk tp) env body Q)))
    (hE : PassesOwn (model prog w) C.A env E := by exact PassesOwn.never) (hf : ∀ x, foldedSetIterable iter env x = pure x := by intro _; rfl) :
    SV prog w C E (exec (.For (.Tuple elts kk tp) iter body [] pos) env) D Q := fun s d =>
  wpAny_For (wpAny_mono (seq1 (R := Rv) d h) (fun xv s₁ p => wpAny_mono p (fun iv s₂ p => by
    obtain ⟨n, ia, D₂, d₂, r, I, a, mo, ep, kvs, rfl, J, hm, h0, step, hQ⟩ := p
    obtain rfl := r.v_
    have key : codeAny (model prog w) C.A (.forLoop (.Tuple elts kk tp) (.ref I) body [] env) (fun r s' => match r with | .ok f => Po C RF Q s₂ f s' | .error e => cameBackBy (model prog w) C.A env E e s') s₂ := by
      refine codeAny_forLoop_any (LI C kvs.length (fun k => itemR I a k kvs.length ep) J s₂) ?_ (kvs.length + 1) ?_
      · rintro n s₁ ⟨k, D', rfl, hkl, n1, d1, hJ⟩
        refine wpAny_mono (itemTurn (elts := elts) (kk := kk) (tp := tp) (E := E) d1 (List.mem_append_left _ (hm k D' hJ)) (j := D'.rs.length) get_last) (fun v s₂ p => ?_) fun e s' x => hE e s' x
        cases v with
        | none =>
          obtain ⟨hk, n2, d2⟩ := p
          have : k = kvs.length := Nat.le_antisymm hkl (List.getElem?_eq_none_iff.mp hk)
          subst this
          rw [show (DS.rs ⟨D'.m, D'.rs ++ [itemR I a kvs.length kvs.length ep]⟩).eraseIdx D'.rs.length = D'.rs from erase_last] at d2
          exact wpAny_execs_nil ⟨n1.trans n2, .next, D', d2, .next, hQ D' hJ⟩
        | some v =>
          obtain ⟨p, hp, q⟩ := p
          have hlt : k < kvs.length := (List.getElem?_eq_some_iff.mp hp).1
          refine wpAny_mono q (fun _ s₃ q => ?_) fun e s' x => hE e s' x
          obtain ⟨n2, r2, d2⟩ := q
          rw [show (DS.rs ⟨D'.m, D'.rs ++ [itemR I a k kvs.length ep]⟩).set D'.rs.length (itemR I a (k + 1) kvs.length ep) = D'.rs ++ [itemR I a (k + 1) kvs.length ep] from set_last] at d2
          refine wpAny_mono (step k p D' hp hJ s₃ v d2 r2) (fun _ s₄ p => ?_) fun e s' x => hE e s' x
          obtain ⟨n3, _, D₂, d3, _, q3⟩ := p
          refine wpAny_mono (q3 s₄ d3) (fun f s₅ p => ?_) fun e s' x => hE e s' x
          obtain ⟨n4, f', D₃, d4, rf, q4⟩ := p
          have nn := n1.trans (n2.trans (n3.trans n4))
          cases rf with
          | next => obtain ⟨D₄, t, j⟩ := q4; exact ⟨kvs.length + 1 - (k + 1), by omega, k + 1, D₄, rfl, hlt, nn, t _ d4, j⟩
          | cont => obtain ⟨D₄, t, j⟩ := q4; exact ⟨kvs.length + 1 - (k + 1), by omega, k + 1, D₄, rfl, hlt, nn, t _ d4, j⟩
          | brk => exact ⟨nn, .next, D₃, d4, .next, q4⟩
          | ret r => exact ⟨nn, _, D₃, d4, .ret r, q4⟩
      · obtain ⟨D', t, j⟩ := h0
        exact ⟨0, D', rfl, Nat.zero_le _, .refl s₂, t s₂ d₂, j⟩
    refine codeAny_mono key fun r s' q => ?_
    cases r with
    | ok f => exact q.after n
    | error e => exact q) fun _ _ x => x) fun _ _ x => x) hf
end
end Mine
end
section
open PySem PySem.W PyProof.Rows
set_option maxRecDepth 100000
namespace Mine
/-- what a sorting tree asks and tells, where the answers are known -/
noncomputable def WT {α : Type} (lt : Nat → Nat → Bool) (N : Nat) : KasT α → (α → Prop) → Prop
  | .ret a, Q => Q a
  | .ask i j k, Q => i < N ∧ j < N ∧ WT lt N (k (lt i j)) Q
theorem WT.bind {α β : Type} {lt : Nat → Nat → Bool} {N : Nat} {f : α → KasT β} {Q : β → Prop} : ∀ (t : KasT α), WT lt N t (fun a => WT lt N (f a) Q) → WT lt N (t.bind f) Q
  | .ret _, h => h
  | .ask i j k, ⟨h1, h2, h3⟩ => ⟨h1, h2, WT.bind (k (lt i j)) h3⟩
theorem WT.wp {α : Type} {lt : Nat → Nat → Bool} {N : Nat} {ask : Nat → Nat → (Bool → Shared → Prop) → Shared → Prop} {G : α → Shared → Prop} {s : Shared} (ha : ∀ i j (C : Bool → Shared → Prop), i < N → j < N → C (lt i j) s → ask i j C s) :
    ∀ (t : KasT α), WT lt N t (fun a => G a s) → t.kasWp ask G s
  | .ret _, h => h
  | .ask i j k, ⟨h1, h2, h3⟩ => ha i j _ h1 h2 (WT.wp ha (k (lt i j)) h3)
section
variable {O : KeyOrd} {r : Nat → O.α} {N : Nat}
noncomputable def RK (r : Nat → O.α) (p : Array Nat) (k : Nat) : O.α := r (p.getD k 0)
noncomputable def SoR (r : Nat → O.α) (p : Array Nat) (n : Nat) : Prop := ∀ i j, i ≤ j → j < n → O.kle (RK r p i) (RK r p j)
noncomputable def DeR (r : Nat → O.α) (p : Array Nat) (n : Nat) : Prop := ∀ i j, i ≤ j → j < n → O.kle (RK r p j) (RK r p i)
noncomputable def AlN (N : Nat) (p : Array Nat) : Prop := 0 < N ∧ ∀ x ∈ p, x < N
noncomputable abbrev ltR (r : Nat → O.α) (i j : Nat) : Bool := O.blt (r i) (r j)
theorem AlN.at {p : Array Nat} (h : AlN N p) (k : Nat) : p.getD k 0 < N := by
  rw [Array.getD_eq_getD_getElem?]
  cases q : p[k]? with
  | none => exact h.1
  | some x => exact h.2 x (Array.mem_of_getElem? q)
theorem AlN.perm {p p' : Array Nat} (h : AlN N p) (k : p'.Perm p) : AlN N p' := ⟨h.1, fun x hx => h.2 x (k.mem_iff.mp hx)⟩
theorem RK_congr {xs ys : Array Nat} {i j : Nat} (h : xs[i]? = ys[j]?) : RK r xs i = RK r ys j := by
  unfold RK; rw [Array.getD_eq_getD_getElem?, Array.getD_eq_getD_getElem?, h]
theorem RK_bubble {xs : Array Nat} {src d : Nat} (hs : src < xs.size) (hd : d ≤ src) (k : Nat) : RK r (bubble xs src d) k = if k = src - d then RK r xs src else if src - d < k ∧ k ≤ src then RK r xs (k - 1) else RK r xs k := by
  have e := getElem?_bubble hs d hd k
  split
  · rename_i h1; rw [if_pos h1] at e; exact RK_congr e
  · rename_i h1
    rw [if_neg h1] at e
    split
    · rename_i h2; rw [if_pos h2] at e; exact RK_congr e
    · rename_i h2; rw [if_neg h2] at e; exact RK_congr e
theorem RK_rev {xs : Array Nat} {i j : Nat} (hj : j ≤ xs.size) (k : Nat) : RK r (kas_rev xs i j) k = if i ≤ k ∧ k < j then RK r xs (i + j - 1 - k) else RK r xs k := by
  have e := getElem?_mirror_all (i := i) hj k
  split
  · rename_i h; rw [if_pos h] at e; exact RK_congr e
  · rename_i h; rw [if_neg h] at e; exact RK_congr e
theorem RK_rev_eq {xs : Array Nat} {i j : Nat} (hj : j ≤ xs.size) (he : ∀ k, i ≤ k → k < j → RK r xs k = RK r xs (j - 1)) (k : Nat) : RK r (kas_rev xs i j) k = RK r xs k := by
  rw [RK_rev hj]
  split
  · rw [he _ (by omega) (by omega), he k (by omega) (by omega)]
  · rfl
theorem rev_perm (xs : Array Nat) (i j : Nat) : (kas_rev xs i j).Perm xs := mirror_perm _ _ _ _
theorem rev_size (xs : Array Nat) (i j : Nat) : (kas_rev xs i j).size = xs.size := mirror_size _ _ _ _
theorem n_sh {n f : Nat} : n + 1 + f = n + (f + 1) := Nat.succ_add_eq_add_succ n f
theorem n_pr {i j : Nat} (a : i ≤ j) (b : ¬ i = j) : i ≤ j - 1 ∧ j - 1 < j :=
  have lt := Nat.lt_of_le_of_ne a b
  ⟨Nat.le_sub_one_of_lt lt, Nat.sub_lt (Nat.lt_of_le_of_lt (Nat.zero_le _) lt) Nat.one_pos⟩
theorem SoR.snoc {p : Array Nat} {n : Nat} (hs : SoR r p n) (q : O.kle (RK r p (n - 1)) (RK r p n)) : SoR r p (n + 1) := fun i j hij hj => by
  by_cases hjn : j < n
  · exact hs i j hij hjn
  · have := Nat.eq_of_lt_succ_of_not_lt hj hjn
    subst this
    by_cases hi : i = j
    · subst hi; exact KeyOrd.kle_refl _
    · exact KeyOrd.kle_trans (hs i (j - 1) (n_pr hij hi).1 (n_pr hij hi).2) q
theorem DeR.snoc {p : Array Nat} {n : Nat} (hs : DeR r p n) (q : O.kle (RK r p n) (RK r p (n - 1))) : DeR r p (n + 1) := fun i j hij hj => by
  by_cases hjn : j < n
  · exact hs i j hij hjn
  · have := Nat.eq_of_lt_succ_of_not_lt hj hjn
    subst this
    by_cases hi : i = j
    · subst hi; exact KeyOrd.kle_refl _
    · exact KeyOrd.kle_trans q (hs i (j - 1) (n_pr hij hi).1 (n_pr hij hi).2)
theorem DeR.congr {p xs : Array Nat} {n : Nat} (hs : DeR r p n) (h : ∀ k, RK r xs k = RK r p k) : DeR r xs n := fun i j a b => by rw [h, h]; exact hs i j a b
theorem eq_last {p : Array Nat} {n : Nat} : ∀ i, n + 1 - (0 + 1) ≤ i → i < n + 1 → RK r p i = RK r p (n + 1 - 1) := fun i a b => by
  have e : i = n := Nat.le_antisymm (Nat.le_of_lt_succ b) a
  subst e; rfl
theorem asc_W {p : Array Nat} (ha : AlN N p) : ∀ (f n : Nat) {Q : Nat → Prop}, 1 ≤ n → SoR r p n → (∀ m, n ≤ m → m ≤ n + f → SoR r p m → (m = n + f ∨ O.klt (RK r p m) (RK r p (m - 1))) → Q m) → WT (ltR r) N (kas_asc p f n) Q
  | 0, n, Q, _, hs, h => h n (Nat.le_refl _) (Nat.le_refl _) hs (.inl rfl)
  | f + 1, n, Q, h1, hs, h => by
    refine ⟨ha.at _, ha.at _, ?_⟩
    cases q : ltR r (p.getD n 0) (p.getD (n - 1) 0) with
    | true => exact h n (Nat.le_refl _) (Nat.le_add_right _ _) hs (.inr q)
    | false => exact asc_W ha f (n + 1) (Nat.succ_pos _) (hs.snoc q) fun m a b c e => h m (Nat.le_of_succ_le a) (Nat.le_trans b (Nat.le_of_eq n_sh)) c (e.imp (fun z => z.trans n_sh) id)
theorem desc_W : ∀ (f : Nat) (p : Array Nat) (n q : Nat) {Q : Array Nat × Nat × Nat → Prop}, AlN N p → 1 ≤ n → n + f ≤ p.size → DeR r p n → q + 1 ≤ n → (∀ i, n - (q + 1) ≤ i → i < n → RK r p i = RK r p (n - 1)) →
    (∀ p' m q', p'.Perm p → n ≤ m → m ≤ n + f → DeR r p' m → q' + 1 ≤ m → (∀ i, m - (q' + 1) ≤ i → i < m → RK r p' i = RK r p' (m - 1)) → Q (p', m, q')) → WT (ltR r) N (kas_desc f p n q) Q
  | 0, p, n, q, Q, _, _, _, hs, hq, he, h => h p n q (.refl _) (Nat.le_refl _) (Nat.le_refl _) hs hq he
  | f + 1, p, n, q, Q, ha, h1, hz, hs, hq, he, h => by
    refine ⟨ha.at _, ha.at _, ?_⟩
    have hz' : n + 1 + f ≤ p.size := Nat.le_trans (Nat.le_of_eq n_sh) hz
    have h' : ∀ p' m q', p'.Perm p → n + 1 ≤ m → m ≤ n + 1 + f → DeR r p' m → q' + 1 ≤ m → (∀ i, m - (q' + 1) ≤ i → i < m → RK r p' i = RK r p' (m - 1)) → Q (p', m, q') := fun p' m q' a b c => h p' m q' a (Nat.le_of_succ_le b) (Nat.le_trans c (Nat.le_of_eq n_sh))
    cases c : ltR r (p.getD n 0) (p.getD (n - 1) 0) with
    | true =>
      simp only [if_true]
      have hs' := hs.snoc (KeyOrd.kle_of_klt c)
      split
      · exact desc_W f _ (n + 1) 0 (ha.perm (rev_perm _ _ _)) (Nat.succ_pos _) (by rw [rev_size]; exact hz') (hs'.congr (RK_rev_eq (Nat.le_trans (Nat.le_add_right _ _) hz) he)) (Nat.succ_le_succ (Nat.zero_le _)) eq_last fun p' m q' a => h' p' m q' (a.trans (rev_perm _ _ _))
      · exact desc_W f p (n + 1) 0 ha (Nat.succ_pos _) hz' hs' (Nat.succ_le_succ (Nat.zero_le _)) eq_last h'
    | false =>
      simp only [Bool.false_eq_true, if_false]
      refine ⟨ha.at _, ha.at _, ?_⟩
      cases c2 : ltR r (p.getD (n - 1) 0) (p.getD n 0) with
      | true => simp only [if_true]; exact h p n q (.refl _) (Nat.le_refl _) (Nat.le_add_right _ _) hs hq he
      | false =>
        simp only [Bool.false_eq_true, if_false]
        have heq : RK r p n = RK r p (n - 1) := KeyOrd.kle_antisymm c2 c
        refine desc_W f p (n + 1) (q + 1) ha (Nat.succ_pos _) hz' (hs.snoc c2) (Nat.succ_le_succ hq) (fun i a b => ?_) h'
        rw [Nat.add_sub_add_right] at a
        show RK r p i = RK r p n
        by_cases hi : i = n
        · subst hi; rfl
        · rw [heq]; exact he i a (Nat.lt_of_le_of_ne (Nat.le_of_lt_succ b) hi)
noncomputable abbrev CntQ (r : Nat → O.α) (p : Array Nat) (nrem : Nat) (Q : Nat × Array Nat → Prop) : Prop := ∀ m p', p'.Perm p → 1 ≤ m → m ≤ nrem → SoR r p' m → Q (m, p')
theorem n_l {n i : Nat} (h : 1 ≤ n) : 0 + n - 1 - i < n := by omega
theorem tail3_W {p : Array Nat} {n nrem : Nat} {Q : Nat × Array Nat → Prop} (ha : AlN N p) (h1 : 1 ≤ n) (hn : n ≤ nrem) (hz : nrem ≤ p.size) (hs : DeR r p n) (h : CntQ r p nrem Q) : WT (ltR r) N (kas_tail3 n nrem p) Q := by
  refine WT.bind _ (asc_W (ha.perm (rev_perm p 0 n)) (nrem - n) n h1 (fun i j hij hj => ?_) fun m a b c _ => h m _ (rev_perm p 0 n) (Nat.le_trans h1 a) (Nat.le_trans b (Nat.le_of_eq (Nat.add_sub_cancel' hn))) c)
  have hz' := Nat.le_trans hn hz
  rw [RK_rev hz', RK_rev hz', if_pos ⟨Nat.zero_le _, Nat.lt_of_le_of_lt hij hj⟩, if_pos ⟨Nat.zero_le _, hj⟩]
  exact hs _ _ (Nat.sub_le_sub_left hij _) (n_l h1)
theorem CntQ.perm {p p' : Array Nat} {nrem : Nat} {Q : Nat × Array Nat → Prop} (h : CntQ r p nrem Q) (k : p'.Perm p) : CntQ r p' nrem Q := fun m q a b c d => h m q (a.trans k) b c d
theorem descPart_W {p : Array Nat} {n nrem : Nat} {Q : Nat × Array Nat → Prop} (ha : AlN N p) (h1 : n + 1 ≤ nrem) (hz : nrem ≤ p.size) (hs : DeR r p (n + 1)) (h : CntQ r p nrem Q) : WT (ltR r) N (kas_descPart n nrem p) Q := by
  refine WT.bind _ (desc_W (nrem - (n + 1)) p (n + 1) 0 ha (Nat.succ_pos _) (Nat.le_trans (Nat.le_of_eq (Nat.add_sub_cancel' h1)) hz) hs (Nat.succ_le_succ (Nat.zero_le _)) eq_last fun p' m q' a b c d e g => ?_)
  have hz' : nrem ≤ p'.size := by rw [a.size_eq]; exact hz
  have hm := Nat.le_trans c (Nat.le_of_eq (Nat.add_sub_cancel' h1))
  have h1' : 1 ≤ m := Nat.le_trans (Nat.succ_pos n) b
  dsimp only
  split
  · refine tail3_W ((ha.perm a).perm (rev_perm _ _ _)) h1' hm (by rw [rev_size]; exact hz') (fun i j hij hj => ?_) (h.perm ((rev_perm _ _ _).trans a))
    rw [RK_rev_eq (Nat.le_trans hm hz') g, RK_rev_eq (Nat.le_trans hm hz') g]
    exact d i j hij hj
  · exact tail3_W (ha.perm a) h1' hm hz' d (h.perm a)
theorem count_W {p : Array Nat} {nrem : Nat} {Q : Nat × Array Nat → Prop} (ha : AlN N p) (h1 : 1 ≤ nrem) (hz : nrem ≤ p.size) (h : CntQ r p nrem Q) : WT (ltR r) N (kas_count nrem p) Q := by
  refine WT.bind _ (asc_W ha (nrem - 1) 1 (Nat.le_refl _) (fun i j hij hj => by
    have := Nat.lt_one_iff.mp hj; subst this
    have := Nat.le_zero.mp hij; subst this
    exact KeyOrd.kle_refl _) fun n a b c e => ?_)
  have hb := Nat.le_trans b (Nat.le_of_eq (Nat.add_sub_cancel' h1))
  by_cases hn : n = nrem
  · rw [if_pos (by simpa using hn)]; exact h n p (.refl _) a hb c
  rw [if_neg (by simpa using hn)]
  have hlt : O.klt (RK r p n) (RK r p (n - 1)) := e.resolve_left fun q => hn (q.trans (Nat.add_sub_cancel' h1))
  have hn1 := Nat.lt_of_le_of_ne hb hn
  clear e b h1 hn
  split
  · refine ⟨ha.at _, ha.at _, ?_⟩
    cases q : ltR r (p.getD 0 0) (p.getD (n - 1) 0) with
    | true => simp only [if_true]; exact h n p (.refl _) a hb c
    | false =>
      simp only [Bool.false_eq_true, if_false]
      have hall : ∀ k, 0 ≤ k → k < n → RK r p k = RK r p (n - 1) := fun k _ hk => KeyOrd.kle_antisymm (c k (n - 1) (Nat.le_sub_one_of_lt hk) (Nat.sub_lt a Nat.one_pos)) (KeyOrd.kle_trans q (c 0 k (Nat.zero_le _) hk))
      refine descPart_W (ha.perm (rev_perm _ _ _)) hn1 (by rw [rev_size]; exact hz) (fun i j hij hj => ?_) (h.perm (rev_perm _ _ _))
      rw [RK_rev_eq (Nat.le_trans hb hz) hall, RK_rev_eq (Nat.le_trans hb hz) hall]
      by_cases hjn : j < n
      · rw [hall i (Nat.zero_le _) (Nat.lt_of_le_of_lt hij hjn), hall j (Nat.zero_le _) hjn]; exact KeyOrd.kle_refl _
      · have := Nat.eq_of_lt_succ_of_not_lt hj hjn
        subst this
        by_cases hi : i = j
        · subst hi; exact KeyOrd.kle_refl _
        · rw [hall i (Nat.zero_le _) (Nat.lt_of_le_of_ne hij hi)]; exact KeyOrd.kle_of_klt hlt
  · have : n = 1 := by clear hz hn1 hb; omega
    subst this
    refine descPart_W ha hn1 hz (fun i j hij hj => ?_) h
    by_cases hi : i = j
    · subst hi; exact KeyOrd.kle_refl _
    · have e1 : i = 0 := Nat.lt_one_iff.mp (Nat.lt_of_lt_of_le (Nat.lt_of_le_of_ne hij hi) (Nat.le_of_lt_succ hj))
      have e2 : j = 1 := Nat.le_antisymm (Nat.le_of_lt_succ hj) (Nat.lt_of_le_of_lt (Nat.zero_le i) (Nat.lt_of_le_of_ne hij hi))
      subst e1; subst e2
      exact KeyOrd.kle_of_klt hlt
theorem mid_lo {l u f : Nat} (h1 : l ≤ u) (h3 : u - l ≤ f + 1) (h : ¬ l = u) : l ≤ (l + u) / 2 ∧ (l + u) / 2 < u ∧ (l + u) / 2 - l ≤ f ∧ u - ((l + u) / 2 + 1) ≤ f := by
  have lt := Nat.lt_of_le_of_ne h1 h
  have a : l ≤ (l + u) / 2 := by rw [Nat.le_div_iff_mul_le (by decide), Nat.mul_two]; exact Nat.add_le_add_left h1 l
  have b : (l + u) / 2 < u := by rw [Nat.div_lt_iff_lt_mul (by decide), Nat.mul_two]; exact Nat.add_lt_add_right lt u
  exact ⟨a, b, Nat.le_of_lt_succ (Nat.lt_of_lt_of_le (Nat.sub_lt_sub_right a b) h3), Nat.le_of_lt_succ (Nat.lt_of_lt_of_le (Nat.sub_lt_sub_left lt (Nat.lt_succ_of_le a)) h3)⟩
theorem place_W {p : Array Nat} {k : Nat} (ha : AlN N p) (hs : SoR r p k) : ∀ (f l u : Nat) {Q : Nat → Prop}, l ≤ u → u ≤ k → u - l ≤ f → (∀ i, i < l → O.kle (RK r p i) (RK r p k)) → (∀ i, u ≤ i → i < k → O.klt (RK r p k) (RK r p i)) →
    (∀ l, l ≤ k → (∀ i, i < l → O.kle (RK r p i) (RK r p k)) → (∀ i, l ≤ i → i < k → O.klt (RK r p k) (RK r p i)) → Q l) → WT (ltR r) N (kas_place p k f l u) Q
  | 0, l, u, Q, h1, h2, h3, lo, hi, h => by
    have : l = u := Nat.le_antisymm h1 (Nat.le_of_sub_eq_zero (Nat.le_zero.mp h3))
    subst this
    exact h l h2 lo hi
  | f + 1, l, u, Q, h1, h2, h3, lo, hi, h => by
    by_cases e : l = u
    · subst e
      unfold kas_place
      rw [if_pos (by simp)]
      exact h l h2 lo hi
    · obtain ⟨m1, m2, m3, m4⟩ := mid_lo h1 h3 e
      unfold kas_place
      rw [if_neg (by simpa using Nat.lt_of_le_of_ne h1 e)]
      refine ⟨ha.at _, ha.at _, ?_⟩
      cases c : ltR r (p.getD k 0) (p.getD ((l + u) / 2) 0) with
      | true =>
        simp only [if_true]
        exact place_W ha hs f l ((l + u) / 2) m1 (Nat.le_trans (Nat.le_of_lt m2) h2) m3 lo (fun i a b => KeyOrd.klt_of_klt_of_kle c (hs _ _ a b)) h
      | false =>
        simp only [Bool.false_eq_true, if_false]
        exact place_W ha hs f ((l + u) / 2 + 1) u m2 h2 m4 (fun i a => KeyOrd.kle_trans (hs i ((l + u) / 2) (Nat.le_of_lt_succ a) (Nat.lt_of_lt_of_le m2 h2)) c) hi h
theorem SoR.bubble {p : Array Nat} {k l : Nat} (hk : k < p.size) (hl : l ≤ k) (hs : SoR r p k) (lo : ∀ i, i < l → O.kle (RK r p i) (RK r p k)) (hi : ∀ i, l ≤ i → i < k → O.klt (RK r p k) (RK r p i)) : SoR r (bubble p k (k - l)) (k + 1) := by
  have z := RK_bubble (r := r) hk (Nat.sub_le k l)
  rw [Nat.sub_sub_self hl] at z
  clear hk
  have z1 : ∀ i, i < l → RK r (PyProof.Rows.bubble p k (k - l)) i = RK r p i := fun i h => by rw [z, if_neg (Nat.ne_of_lt h), if_neg (fun q => Nat.lt_asymm q.1 h)]
  have z2 : RK r (PyProof.Rows.bubble p k (k - l)) l = RK r p k := by rw [z, if_pos rfl]
  have z3 : ∀ i, l < i → i ≤ k → RK r (PyProof.Rows.bubble p k (k - l)) i = RK r p (i - 1) := fun i h h' => by rw [z, if_neg (Nat.ne_of_gt h), if_pos ⟨h, h'⟩]
  clear z
  intro i j hij hj
  have hj := Nat.le_of_lt_succ hj
  have pr : ∀ {j : Nat}, l < j → j ≤ k → l ≤ j - 1 ∧ j - 1 < k := fun h h' => ⟨Nat.le_sub_one_of_lt h, Nat.lt_of_lt_of_le (Nat.sub_one_lt (Nat.ne_of_gt (Nat.lt_of_le_of_lt (Nat.zero_le _) h))) h'⟩
  rcases Nat.lt_trichotomy j l with a | a | a
  · rw [z1 j a, z1 i (Nat.lt_of_le_of_lt hij a)]; exact hs i j hij (Nat.lt_of_lt_of_le a hl)
  · subst a
    rw [z2]
    rcases Nat.lt_or_eq_of_le hij with b | b
    · rw [z1 i b]; exact lo i b
    · rw [b, z2]; exact KeyOrd.kle_refl _
  · rw [z3 j a hj]
    rcases Nat.lt_trichotomy i l with b | b | b
    · rw [z1 i b]; exact hs i _ (Nat.le_trans (Nat.le_of_lt b) (pr a hj).1) (pr a hj).2
    · rw [b, z2]; exact KeyOrd.kle_of_klt (hi _ (pr a hj).1 (pr a hj).2)
    · rw [z3 i b (Nat.le_trans hij hj)]; exact hs _ _ (Nat.sub_le_sub_right hij 1) (pr a hj).2
theorem bin_W : ∀ (f : Nat) (p : Array Nat) (k : Nat) {Q : Array Nat → Prop}, AlN N p → k + f ≤ p.size → SoR r p k → (∀ p', p'.Perm p → SoR r p' (k + f) → Q p') → WT (ltR r) N (kas_bin f p k) Q
  | 0, p, k, Q, _, _, hs, h => h p (.refl _) hs
  | f + 1, p, k, Q, ha, hz, hs, h => by
    have hz' : k + 1 + f ≤ p.size := Nat.le_trans (Nat.le_of_eq n_sh) hz
    refine WT.bind _ (place_W ha hs k 0 k (Nat.zero_le _) (Nat.le_refl _) (Nat.sub_le _ _) (fun i a => absurd a (Nat.not_lt_zero _)) (fun i a b => absurd a (Nat.not_le_of_lt b)) fun l hl lo hi => ?_)
    exact bin_W f (bubble p k (k - l)) (k + 1) (ha.perm (bubble_perm _ _ _)) (by rw [bubble_size]; exact hz') (hs.bubble (Nat.lt_of_lt_of_le (Nat.lt_succ_self k) (Nat.le_trans (Nat.le_add_right _ _) hz')) hl lo hi) fun p' a b => h p' (a.trans (bubble_perm _ _ _)) (n_sh ▸ b)
theorem sort_W {n : Nat} {Q : Array Nat → Prop} (h1 : 1 ≤ n) (h : ∀ p, p.Perm (List.range n).toArray → SoR r p n → Q p) : WT (ltR r) n (kas_sort n) Q := by
  have ha : AlN n (List.range n).toArray := ⟨h1, fun x hx => by simpa using hx⟩
  have hz : n ≤ (List.range n).toArray.size := by simp
  refine WT.bind _ (count_W ha h1 hz fun m p' a b c d => ?_)
  dsimp only
  have hz' : p'.size = n := by rw [a.size_eq]; simp
  split
  · rw [Nat.max_eq_left b]
    exact bin_W (n - m) p' m (ha.perm a) (Nat.le_of_eq ((Nat.add_sub_cancel' c).trans hz'.symm)) d fun p2 e g => h p2 (e.trans a) (by rwa [Nat.add_sub_cancel' c] at g)
  · have : m = n := by omega
    subst this
    exact h p' a d
end
end Mine
end
section
open PySem PySem.W
set_option maxRecDepth 100000
namespace Mine
open Builtin Builtin.Str in
/-- y cuts x into ws -/
structure Cuts (x y : Str) (ws : List Str) : Prop where
  h1 : (decide (x.length < y.length) || decide (strKind x < strKind y)) = false
  h2 : (y.length == 0) = false
  h3 : (occurrences x y 0 x.length (x.length + 1)).isEmpty = false
  h4 : partsBetween x (occurrences x y 0 x.length (x.length + 1)) y.length = ws
  hx : x.length ≤ 1000
  hz : ws.length ≤ 1000
theorem rvl_strs {h : Heap} : ∀ (tk : Nat) (xs : List Str), RvL h (strsFrom tk xs) (xs.map fun x => .d (.str x))
  | _, [] => .nil
  | tk, x :: r => .cons (.d (.str _ _)) (rvl_strs (tk + 1) r)
section
variable {prog : Program} {w : World} {C : Cx w} {E : Value → Shared → Prop} {D : DS} {env : Env} {pos : Pos}
theorem gm_split {x : Str} : GM prog C E "split" (.d (.str x)) (.builtin "str.split") D := fun s u pl P d r h => by
  obtain ⟨t, rfl⟩ := r.str_
  exact PySem.GM.split h
theorem ol_split {x y : Str} {ws : List Str} {Q : AV → DS → Prop} (c : Cuts x y ws) (h : ∀ a, Q (.v (.ref a)) ⟨D.m, D.rs ++ [one prog w a (.list (ws.map fun x => .d (.str x)))]⟩) :
    OL prog w C E Rv (fun vs => call (.builtin "str.split") vs) [.d (.str x), .d (.str y)] D Q := ol2 fun s u v d r1 r2 => by
        obtain ⟨t, rfl⟩ := r1.str_
        obtain ⟨u, rfl⟩ := r2.str_
        have hx := c.hx
        have hz := c.hz
        refine call_meets F.slot_str_split (typeIs_str _ _ _) F.entry_str_split (F.args_str_split_2 _ _) (meets_str_split_sep x y t u c.h1 c.h2 c.h3 (by rw [sizeLine_eq]; omega) (by rw [c.h4, sizeLine_eq]; omega)) ?_
        rw [c.h4]
        exact .intro (d.new (one prog w s.heap.objs.size (.list (ws.map fun x => .d (.str x)))) (tk := s.toks + ws.length) (push_keeps s.heap { cls := .type "list", data := .seq (strsFrom s.toks ws).toArray }) (push_size _ _)
          ⟨(strsFrom s.toks ws).toArray, 0, Heap.get?_push_size _ rfl, by rw [List.toList_toArray]; exact rvl_strs _ _⟩ (by simp [one]) (by simp [one])) (.v _) (h _)
theorem ol_intText {x : Str} {n : Int} {Q : AV → DS → Prop} (hn : PySem.intText? x = some n) (hl : x.length ≤ 640) (h : Q (.d (.int n)) D) : OL prog w C E Rv (fun vs => call (.type "int") vs) [.d (.str x)] D Q := ol1 fun s u d r1 => by
      obtain ⟨t, rfl⟩ := r1.str_
      exact KIN.call_text hn hl (.intro ⟨.toks _ _, d.toks _⟩ (.d (.int _ _)) h)
end
end Mine
end
section
open PySem PySem.W
set_option maxRecDepth 100000
namespace Mine
noncomputable def putM (M : Md) (r : Int × Str × Str) : Md := put_ M (lawClass r.2.1, r.2.2) (r.1, r.2.1)
noncomputable def runM (M : Md) (l : List (Int × Str × Str)) : Md := l.foldl putM M
theorem runM_snoc (M : Md) (l : List (Int × Str × Str)) (r : Int × Str × Str) : runM M (l ++ [r]) = putM (runM M l) r := by unfold runM; rw [List.foldl_append]; rfl
noncomputable abbrev kyA (k : Str × Str) : List Str := [k.1, k.2]
theorem kyA_inj {a b : Str × Str} (h : kyA a = kyA b) : a = b := by simp at h; exact Prod.ext h.1 h.2
theorem put_md (M : Md) (a b : Str) (e : Int × Str) : put_ (mdA M) [a, b] (entA e) = mdA (put_ M (a, b) e) := by
  unfold put_
  rw [at_md]
  cases q : at_ M (a, b) with
  | none => simp [mdA]
  | some v =>
    simp only [Option.map_some, Option.isSome_some, if_true]
    unfold mdA
    rw [List.map_map, List.map_map]
    apply List.map_congr_left
    intro x _
    simp only [Function.comp]
    by_cases e1 : x.1 = (a, b)
    · simp [e1]
    · have e2 : ¬ ([x.1.1, x.1.2] = [a, b]) := fun q => e1 (by simp at q; exact Prod.ext q.1 q.2)
      simp [e1, e2]
noncomputable abbrev stdTexts : List Str := ["1200 xfx :- -->", "1200 fx :- ?-", "1150 fx dynamic discontiguous", "1100 xfy ; |", "1050 xfy ->", "900 fy \\+", "700 xfx = \\= == \\== @< @=< @> @>= =..", "700 xfx is =:= =\\= < =< > >=", "500 yfx + - /\\ \\/", "400 yfx * / // rem mod div << >>", "200 xfx **", "200 xfy ^", "200 fy - + \\"]
noncomputable def numTxt (n : Int) : Str := if n = 1200 then "1200" else if n = 1150 then "1150" else if n = 1100 then "1100" else if n = 1050 then "1050" else if n = 900 then "900" else if n = 700 then "700" else if n = 500 then "500" else if n = 400 then "400" else "200"
noncomputable abbrev wordsOf (r : Int × Str × List Str) : List Str := numTxt r.1 :: r.2.1 :: r.2.2
theorem std_cuts : ∀ k < 13, Cuts (stdTexts.getD k "") " " (wordsOf (stdRows.getD k (0, "", []))) := by
  intro k hk
  have h : ∀ k < 13, ((decide ((stdTexts.getD k "").length < (" " : Str).length) || decide (Builtin.Str.strKind (stdTexts.getD k "") < Builtin.Str.strKind (" " : Str))) = false) ∧ ((" " : Str).length == 0) = false ∧
    (Builtin.Str.occurrences (stdTexts.getD k "") " " 0 (stdTexts.getD k "").length ((stdTexts.getD k "").length + 1)).isEmpty = false ∧
    Builtin.Str.partsBetween (stdTexts.getD k "") (Builtin.Str.occurrences (stdTexts.getD k "") " " 0 (stdTexts.getD k "").length ((stdTexts.getD k "").length + 1)) (" " : Str).length = wordsOf (stdRows.getD k (0, "", [])) ∧
    (stdTexts.getD k "").length ≤ 1000 ∧ (wordsOf (stdRows.getD k (0, "", []))).length ≤ 1000 := by decide +kernel
  obtain ⟨a, b, c, d, e, f⟩ := h k hk
  exact ⟨a, b, c, d, e, f⟩
theorem std_nums : ∀ k < 13, PySem.intText? (numTxt (stdRows.getD k (0, "", [])).1) = some (stdRows.getD k (0, "", [])).1 ∧ (numTxt (stdRows.getD k (0, "", [])).1).length ≤ 640 := by decide +kernel
theorem ix_zip {α : Type} {l : List α} {k : Nat} {x d : α} (h : l[k]? = some x) : l.getD k d = x := by simp [h]
section
variable {prog : Program} {w : World}
set_option maxHeartbeats 2000000
theorem fn_lawStandard : Fn prog w (.ref 377) 2 [] [] (fun av rs' nw => ∃ mo, av = .v (.ref mo) ∧ rs' = [] ∧ nw = [one prog w mo (.dTS (mdA (runM [] (flat stdRows))))]) := by
  refine fn_body [] ["rows", "model", "row", "words", "name"] (by rfl) (by rfl) (by kernel_rfl) ?_ (by rfl) (by decide) (by decide) (by decide) ?_ (by rfl) (by rfl) (by rfl)
  · intro vals h
    obtain rfl := len0 h
    rfl
  intro C hC ho
  refine ss_cons ?_
  refine s_assign (i := 0) ?_
  refine e_list ?_
  iterate 13 (refine l_str ?_)
  refine l_nil ⟨Nat.le_of_ble_eq_true rfl, fun a => ⟨⟨_, by rfl⟩, ?_⟩⟩
  refine GV.less (D' := ⟨[("rows", some (.v (.ref a))), ("model", none), ("row", none), ("words", none), ("name", none)], [one prog w a (.list (stdTexts.map fun x => .d (.str x)))]⟩) (fun s d => d) ?_
  refine ss_cons <| s_assign (i := 1) <| e_dict0H (hpS prog w) fun mo => ⟨⟨_, by rfl⟩, ?_⟩
  let W : Md → DS := fun M => ⟨[("rows", some (.v (.ref a))), ("model", some (.v (.ref mo))), ("row", none), ("words", none), ("name", none)], [one prog w a (.list (stdTexts.map fun x => .d (.str x))), one prog w mo (.dTS (mdA M))]⟩
  refine GV.less (D' := W []) (fun s d => d) ?_
  refine ss_cut (fun D₁ => D₁ = W (runM [] (flat stdRows))) ?_ ?_
  rotate_left
  · refine w_eq ?_
    refine ss_cons <| s_ret <| e_loc (i := 1) (by rfl) ?_
    exact ⟨[], [one prog w mo (.dTS (mdA (runM [] (flat stdRows))))], [_], List.Perm.swap _ _ _, rfl, mo, rfl, rfl, rfl⟩
  refine s_for <| e_loc (i := 0) (by rfl) <| oi_list (i := 0) (by rfl) fun I => ⟨srcList prog C I a (stdTexts.map fun x => .d (.str x)), rfl, fun k D' => D' = W (runM [] (flat (stdRows.take k))), ?_, ⟨_, to_of, rfl⟩, ?_, ?_⟩
  · rintro k _ rfl r hr
    rw [List.mem_singleton.mp hr]
    exact .head _
  rotate_left
  · refine w_eq ?_
    exact ⟨_, fun _ d => d, rfl⟩
  rintro k x _ hx rfl
  have hk : k < 13 := (List.getElem?_eq_some_iff.mp hx).1
  obtain ⟨y, hy, rfl⟩ : ∃ y, stdTexts[k]? = some y ∧ x = .d (.str y) := by
    simp only [srcList, List.getElem?_map, Option.map_eq_some_iff] at hx
    obtain ⟨u, h1, rfl⟩ := hx
    exact ⟨u, h1, rfl⟩
  obtain ⟨r, hr⟩ : ∃ r, stdRows[k]? = some r := ⟨_, List.getElem?_eq_getElem hk⟩
  have cu := std_cuts k hk
  have nu := std_nums k hk
  rw [ix_zip hy, ix_zip hr] at cu
  rw [ix_zip hr] at nu
  have fr := flat_take hr
  refine as_name (i := 2) (by rfl) ?_
  refine ss_cons <| s_assign (i := 3) <| e_meth <| e_loc (i := 2) (by rfl) ⟨_, gm_split, kp_builtin, l_cons <| e_str <| l_nil <| ol_split cu fun ws => ⟨⟨_, by rfl⟩, ?_⟩⟩
  let V : List Reg → Md → DS := fun j M => ⟨[("rows", some (.v (.ref a))), ("model", some (.v (.ref mo))), ("row", none), ("words", some (.v (.ref ws))), ("name", none)], [one prog w a (.list (stdTexts.map fun x => .d (.str x))), one prog w mo (.dTS (mdA M)), itList I a (k + 1), one prog w ws (.list ((wordsOf r).map fun x => .d (.str x)))] ++ j⟩
  refine GV.less (D' := V [] (runM [] (flat (stdRows.take k)))) to_of ?_
  refine ss_cut (fun D₁ => D₁ = ⟨(W (runM [] (flat (stdRows.take (k + 1))))).m, (W (runM [] (flat (stdRows.take (k + 1))))).rs ++ [itList I a (k + 1)]⟩) ?_ ?_
  rotate_left
  · refine w_eq ?_
    exact ss_nil ⟨_, to_of, rfl⟩
  refine s_for <| e_from <| e_loc (i := 3) (by rfl) <| e_int ⟨ws, (wordsOf r).map fun x => .d (.str x), 2, rfl, rfl, ListNow.at (i := 3) (by rfl), by have := cu.hz; simp at this ⊢; omega, fun b => ?_⟩
  refine oi_list (i := 4) (by rfl) fun J => ⟨srcList prog C J b (r.2.2.map fun x => .d (.str x)), rfl, fun j D' => D' = V [one prog w b (.list (r.2.2.map fun x => .d (.str x)))] (runM [] (flat (stdRows.take k) ++ (r.2.2.take j).map fun n => (r.1, r.2.1, n))), ?_, ⟨_, ?_, rfl⟩, ?_, ?_⟩
  · rintro j _ rfl r hr
    rw [List.mem_singleton.mp hr]
    simp [V]
  · rw [List.take_zero, List.map_nil, List.append_nil]
    exact to_of
  rotate_left
  · refine w_eq ?_
    refine ⟨_, ?_, rfl⟩
    rw [show (srcList prog C J b (r.2.2.map fun x => .d (.str x))).l.length = r.2.2.length from by simp [srcList], List.take_length, ← fr]
    exact to_of
  rintro j x _ hx rfl
  obtain ⟨n, hn, rfl⟩ : ∃ n, r.2.2[j]? = some n ∧ x = .d (.str n) := by
    simp only [srcList, List.getElem?_map, Option.map_eq_some_iff] at hx
    obtain ⟨u, h1, rfl⟩ := hx
    exact ⟨u, h1, rfl⟩
  generalize hM : runM [] (flat (stdRows.take k) ++ (r.2.2.take j).map fun n => (r.1, r.2.1, n)) = M
  have hMn : runM [] (flat (stdRows.take k) ++ (r.2.2.take (j + 1)).map fun n => (r.1, r.2.1, n)) = putM M (r.1, r.2.1, n) := by
    rw [← hM, ← runM_snoc, List.take_add_one, hn, List.map_append, List.append_assoc]; rfl
  have len : M.length ≤ 10000 := by
    have h1 : ∀ (l : List (Int × Str × Str)) (M : Md), (runM M l).length ≤ M.length + l.length := by
      intro l
      induction l with
      | nil => intro M; exact Nat.le_refl _
      | cons x l ih => intro M; have := ih (putM M x); have := put_length M (lawClass x.2.1, x.2.2) (x.1, x.2.1); show (runM (putM M x) l).length ≤ _; simp only [List.length_cons]; unfold putM at *; omega
    have h2 := h1 (flat (stdRows.take k) ++ (r.2.2.take j).map fun n => (r.1, r.2.1, n)) []
    have h3 := flat_len k
    have h4 := cu.hz
    rw [hM, List.length_append, List.length_map, List.length_take] at h2
    simp at h2 h4
    omega
  refine as_name (i := 4) (by rfl) ?_
  refine ss_cons <| s_setitem ?_
  refine e_tuple ?_
  refine l_cons <| e_bcall (l_cons <| e_sub <| e_loc (i := 3) (by rfl) <| e_int <| i_list (i := 3) (by rfl) (by decide) (by decide) (x := .d (.str (numTxt r.1))) (by rfl) <| l_nil <| ol_intText nu.1 nu.2 ?_) kp_type
  refine l_cons <| e_sub <| e_loc (i := 3) (by rfl) <| e_int <| i_list (i := 3) (by rfl) (by decide) (by decide) (x := .d (.str r.2.1)) (by rfl) <| l_nil ⟨[.int r.1, .str r.2.1], rfl, by simp, ?_⟩
  refine e_loc (i := 1) (by rfl) ?_
  refine e_tuple ?_
  refine l_cons <| e_fcall 370 <| l_cons <| e_sub <| e_loc (i := 3) (by rfl) <| e_int <| i_list (i := 3) (by rfl) (by decide) (by decide) (x := .d (.str r.2.1)) (by rfl) <| l_nil <| ol_f (fn_class r.2.1) [] ?_
  refine w_x3 ?_
  refine l_cons <| e_loc (i := 4) (by rfl) <| l_nil ⟨[.str (lawClass r.2.1), .str n], rfl, by simp, ?_⟩
  refine u_setH (hpS prog w) (k := [lawClass r.2.1, n]) (i := 1) (by rfl) (by simpa [mdA] using len) ?_
  rw [show put_ (mdA M) [lawClass r.2.1, n] (.d (.tuple [.int r.1, .str r.2.1])) = mdA (putM M (r.1, r.2.1, n)) from put_md M (lawClass r.2.1) n (r.1, r.2.1), ← hMn]
  exact ss_nil ⟨_, to_of, rfl⟩
end
end Mine
end
section
open PySem PySem.W
set_option maxRecDepth 100000
namespace Mine
theorem filterH_none {K : Type} [DecidableEq K] {xs : List (K × Addr × Value)} {k : K} (h : k ∉ xs.map (·.1)) : (xs.filter fun x => decide (x.1 ≠ k)) = xs := by
  rw [List.filter_eq_self]
  intro x hx
  simp only [ne_eq, decide_not, Bool.not_eq_true', decide_eq_false_iff_not]
  exact fun e => h (e ▸ List.mem_map.mpr ⟨x, hx, rfl⟩)
theorem eraseH {K : Type} [DecidableEq K] {xs : List (K × Addr × Value)} {k : K} {p : Addr × Value} (hn : (xs.map (·.1)).Nodup) : ∀ {j : Nat}, xs[j]? = some (k, p) → xs.eraseIdx j = xs.filter fun x => decide (x.1 ≠ k) := by
  induction xs with
  | nil => intro j hj; simp at hj
  | cons x xs ih =>
    intro j hj
    rw [List.map_cons, List.nodup_cons] at hn
    cases j with
    | zero =>
      simp at hj; subst hj
      rw [List.eraseIdx_cons_zero, List.filter_cons]
      simp only [ne_eq, not_true, decide_false, Bool.false_eq_true, if_false]
      exact (filterH_none hn.1).symm
    | succ j =>
      simp at hj
      have hne : x.1 ≠ k := fun e => hn.1 (e ▸ List.mem_map.mpr ⟨_, List.mem_of_getElem? hj, rfl⟩)
      rw [List.eraseIdx_cons_succ, List.filter_cons, ih hn.2 hj]
      simp [hne]
theorem map_eraseIdx {α β : Type} (f : α → β) : ∀ (l : List α) (j : Nat), (l.map f).eraseIdx j = (l.eraseIdx j).map f
  | [], _ => rfl
  | _ :: _, 0 => rfl
  | x :: l, j + 1 => by simp [map_eraseIdx f l j]
section
variable {prog : Program} {w : World} {K : Type} [DecidableEq K] {knd : HeapKind prog w K} {A : Around} {E : Value → Shared → Prop} {s : Shared} {d a : Addr} {k : K} {xs : List (K × Addr × Value)}
theorem pop_H {dflt : Value} {P : Fin → Shared → Prop} (hu : knd.room A) (hkey : knd.is s.heap k a) (hd : (d == sysModules) = false) (hm : s.heap.DictOfH knd d xs) (hsz : xs.length ≤ sizeLine)
    (h0 : atKey xs k = none → ∀ tk, P (.done (.ret dflt)) { s with toks := tk })
    (h1 : ∀ p, atKey xs k = some p → ∀ h' tk, h'.DictOfH knd d (xs.filter fun x => decide (x.1 ≠ k)) → Heap.SameBut d s.heap h' → P (.done (.ret p.2)) { s with heap := h', toks := tk }) :
    wpAny (model prog w) A (Builtin.«dict.pop» ⟨[.ref d, .ref a, dflt], []⟩) P E s := by
  obtain ⟨o, es, ep, ho, hc, hdat, he, his, hn⟩ := id hm
  have hes : es.size ≤ sizeLine := by have e := size_of_entries he; omega
  unfold Builtin.«dict.pop»
  refine wpAny_bind ?_
  unfold Builtin.Dict.keyAndDefault
  refine wpAny_bind (wpAny_notOrdered_dict hm.typeIs ?_)
  show wpAny _ _ (pure (d, Value.ref a, some dflt)) _ _ s
  refine wpAny_pure ?_
  dsimp only
  rw [if_neg (show ¬ ((keyPart (.ref a)).isSome = true) from Bool.false_ne_true)]
  refine wpAny_bind (wpAny_dictEntries ho hdat (wpAny_bind (wpAny_pure ?_)))
  by_cases hemp : es.isEmpty = true
  · rw [if_pos hemp]
    refine wpAny_bind (wpAny_rule (wpAny_bind (wpAny_pure ?_)))
    have hx : xs = [] := by
      have e := size_of_entries he
      have : es.size = 0 := by simpa using hemp
      exact List.eq_nil_of_length_eq_zero (by omega)
    simp only [Option.isNone_none, if_true]
    refine wpAny_bind (wpAny_missedRemoval_other hd ?_)
    exact wpAny_bind (wpAny_rule (wpAny_pure (h0 (by rw [hx]; rfl) s.toks)))
  rw [if_neg hemp]
  refine wpAny_bind ?_
  unfold Builtin.Dict.takeOut
  try with_reducible refine wpAny_holding ?_
  refine wpAny_bind (knd.pyHash hu hkey ?_)
  refine wpAny_bind (wpAny_dictFind_heap (s := { s with toks := s.toks + knd.draws k }) hu hkey ho hdat he his hn ?_ ?_)
  · intro hno
    refine wpAny_pure ?_
    simp only [Option.isNone_none, if_true]
    refine wpAny_bind (wpAny_missedRemoval_other hd ?_)
    exact wpAny_bind (wpAny_rule (wpAny_pure (h0 (atKey_none_of_get hno) _)))
  · intro j p hj
    refine wpAny_bind (wpAny_dictEntries (s := { s with toks := s.toks + knd.draws k }) ho hdat ?_)
    rw [entry_at he j, hj]
    dsimp only [Option.map_some]
    refine wpAny_bind (wpAny_updateDictKeys (hz := hes) (s := { s with toks := s.toks + knd.draws k }) ho hdat (wpAny_pure ?_))
    simp only [Option.isNone_some, Bool.false_eq_true, if_false]
    have hd2 : (s.heap.update d (Obj.mapDictKeys fun x => x.eraseIdxIfInBounds j)).DictOfH knd d (xs.filter fun x => decide (x.1 ≠ k)) := by
      refine ⟨_, _, ep + 1, Heap.get?_update_self _ ho (Obj.isFreed_of_dict (Obj.data_mapDictKeys hdat _)), hc.mapDictKeys _, Obj.data_mapDictKeys hdat _, ?_, fun x hx => knd.keeps (his x (List.mem_filter.mp hx).1) ho hdat (Heap.SameBut.update ..), ?_⟩
      · rw [← eraseH hn hj, ← map_eraseIdx]
        obtain ⟨l⟩ := es
        simp only [List.eraseIdxIfInBounds_toArray]
        rw [show l = List.map (entryOfKey knd) xs from he]
      · exact (List.filter_sublist.map _).nodup hn
    exact wpAny_bind (wpAny_letGo (wpAny_pure (h1 p (atKey_of_get hn hj) _ _ hd2 (Heap.SameBut.update ..))))
end
section
variable {prog : Program} {w : World} {C : Cx w} {E : Value → Shared → Prop} {D : DS} {env : Env} {pos : Pos} {K : Type} [DecidableEq K] (T : HpK prog w K)
theorem gm_popH {i : Nat} {a : Addr} {kvs : List (List K × AV)} (hi : D.rs[i]? = some (one prog w a (T.mo kvs))) : GM prog C E "pop" (.v (.ref a)) (.builtin "dict.pop") D := gm_hp T hi PySem.F.slot_dict_pop PySem.F.type_dict_pop
theorem ol_popH {i : Nat} {a : Addr} {kvs : List (List K × AV)} {k : List K} {Q : AV → DS → Prop} (hi : D.rs[i]? = some (one prog w a (T.mo kvs))) (hz : kvs.length ≤ 10000) (h : ∀ av, Q av ⟨D.m, D.rs.set i (one prog w a (T.mo (del_ kvs k)))⟩) :
    OL prog w C E Rv (fun vs => call (.builtin "dict.pop") vs) [.v (.ref a), .d (.tuple (k.map T.enc)), .d .none] D Q := olv3 fun s u v d r2 r3 => by
          obtain ⟨xs, h1, h2⟩ := d.hpAt T hi
          obtain ⟨p, rfl, hk⟩ := hp_key T r2
          have nt := d.notTp (.tail _ (mem_feet.mpr ⟨_, mem_of_get hi, .head _⟩) : a ∈ C.L :: feet D.rs)
          refine wpAny_call_entry PySem.F.slot_dict_pop h1.typeIs PySem.F.entry_dict_pop (pop_H C.room.1 hk (d.notSys hi (.head _)) h1 (by rw [h2.length, sizeLine_eq]; omega) (fun h0 tk => ?_) fun q hq h' tk hm hs => ?_) (PySem.F.args_dict_pop_3 _ _ _)
          · refine ⟨_, rfl, ?_⟩
            have hno : at_ kvs k = none := by
              have z := h2.at k
              cases q : at_ kvs k with
              | some b => rw [q] at z; obtain ⟨p, u, z, _⟩ := z; rw [h0] at z; cases z
              | none => rfl
            have hdel : del_ kvs k = kvs := by
              unfold del_
              rw [List.filter_eq_self]
              intro x hx
              unfold at_ at hno
              rw [Option.map_eq_none_iff, List.find?_eq_none] at hno
              have := hno x hx
              simpa using this
            have hset : D.rs.set i (one prog w a (T.mo (del_ kvs k))) = D.rs := by
              rw [hdel]
              obtain ⟨h3, h4⟩ := List.getElem?_eq_some_iff.mp hi
              rw [← h4]; exact List.set_getElem_self h3
            have hh := h (.d .none)
            rw [hset] at hh
            exact .intro ⟨.toks _ _, d.toks _⟩ (r3.le (.refl _)) hh
          · refine ⟨_, rfl, ?_⟩
            have z := h2.at k
            have hb : ∃ b, Rv s.heap q.2 b := by
              cases qq : at_ kvs k with
              | some b => rw [qq] at z; obtain ⟨p, u, z, zr⟩ := z; rw [hq] at z; cases z; exact ⟨b, zr⟩
              | none => rw [qq] at z; rw [hq] at z; cases z
            obtain ⟨b, hb⟩ := hb
            exact .intro (d.upd hi (r' := one prog w a (T.mo (del_ kvs k))) rfl (fun b o q e => (hs.2 b (by simpa [one] using q)).trans e) (Nat.le_of_eq hs.1.symm) (hp_ro T hm ((h2.le (le_same hs nt)).del k))) (hb.le (le_same hs nt)) (h b)
end
end Mine
end
section
open PySem PySem.W
set_option maxRecDepth 100000
namespace Mine
section
variable {prog : Program} {w : World} {C : Cx w} {E : Value → Shared → Prop} {D : DS} {env : Env} {pos : Pos}
theorem t_list {i : Nat} {a : Addr} {l : List AV} {Q : Bool → DS → Prop} (hi : D.rs[i]? = some (one prog w a (.list l))) (hz : l.length ≤ 10000) (h : Q (decide (0 < l.length)) D) : O1 prog w C E Rb truthy (.v (.ref a)) D Q := o1v fun s d => by
  obtain ⟨vs, hl, hr⟩ := d.listAt hi
  have hz' : vs.size = l.length := by have := hr.length; simpa using this
  refine wpAny_truthy_list hl.isList (by rw [hz']; omega) ?_
  exact .intro ⟨.toks _ _, d.toks _⟩ (show (!vs.isEmpty) = decide (0 < l.length) from by rw [← hz']; unfold Array.isEmpty; by_cases h : vs.size = 0 <;> simp [h]; omega) h
theorem o_neL {i j : Nat} {a b : Addr} {xs ys : List PyData} {Q : AV → DS → Prop} (hi : D.rs[i]? = some (one prog w a (.list (xs.map .d)))) (hj : D.rs[j]? = some (one prog w b (.list (ys.map .d))))
    (hx : SeqAt.shaped (.list xs) = true) (hy : SeqAt.shaped (.list ys) = true) (h : Q (.d (.bool (!(PyData.list xs).eqv (.list ys)))) D) : O2 prog w C E Rv (compareOp .NotEq) (.v (.ref a)) (.v (.ref b)) D Q := fun s u v d r q => by
  obtain rfl := r.v_
  obtain rfl := q.v_
  obtain ⟨vs, ⟨n, e1⟩, r1⟩ := d.listAt hi
  obtain ⟨us, ⟨n', e2⟩, r2⟩ := d.listAt hj
  exact SeqAt.compareNe_shaped (.list e1 rfl rfl r1.reads) (.list e2 rfl rfl r2.reads) hx hy C.eqRoom (.here d (.d (.bool _)) h)
end
/-- parts of an error that can be compared -/
theorem strK : ∀ k ∈ (["integer", "atom", "list", "operator_priority", "operator_specifier", "modify", "create", "operator"] : List Str), PyData.strOk k = true := by decide +kernel
theorem shaped2 {k : Str} {t : Tm} (hk : PyData.strOk k = true) (ht : t.dep ≤ 50) : SeqAt.shaped (.list [.str k, t.py]) = true := by
  unfold SeqAt.shaped
  have := t.depth
  simp only [PyData.canLay0, PyData.canLayAll0, PyData.depth, PyData.depthAll, t.canLay, hk, Bool.and_true, Bool.true_and]
  exact decide_eq_true (by omega)
theorem shaped3 {k j : Str} {t : Tm} (hk : PyData.strOk k = true) (hj : PyData.strOk j = true) (ht : t.dep ≤ 50) : SeqAt.shaped (.list [.str k, .str j, t.py]) = true := by
  unfold SeqAt.shaped
  have := t.depth
  simp only [PyData.canLay0, PyData.canLayAll0, PyData.depth, PyData.depthAll, t.canLay, hk, hj, Bool.and_true, Bool.true_and]
  exact decide_eq_true (by omega)
theorem Tm.shapedL1 {t : Tm} (ht : t.dep ≤ 50) : SeqAt.shaped (.list [t.py]) = true := by
  unfold SeqAt.shaped
  have := t.depth
  simp only [PyData.canLay0, PyData.canLayAll0, PyData.depth, PyData.depthAll, t.canLay, Bool.and_true]
  exact decide_eq_true (by omega)
theorem tms_shaped {l : List Tm} (h : ∀ t ∈ l, t.dep ≤ 50) : SeqAt.shaped (.list (l.map Tm.py)) = true := by
  have key : PyData.canLayAll0 (l.map Tm.py) = true ∧ PyData.depthAll (l.map Tm.py) ≤ 51 := by
    induction l with
    | nil => exact ⟨rfl, Nat.zero_le _⟩
    | cons t l ih =>
      have hh := ih fun u hu => h u (.tail _ hu)
      have h1 := t.depth
      have h2 := h t (.head _)
      rw [List.map_cons]
      simp only [PyData.canLayAll0, PyData.depthAll, t.canLay, hh.1, Bool.and_true]
      exact ⟨trivial, by omega⟩
  unfold SeqAt.shaped
  simp only [PyData.canLay0, PyData.depth, key.1, Bool.true_and]
  exact decide_eq_true (by omega)
theorem tmsA_eq (l : List Tm) : tmsA l = (l.map Tm.py).map .d := by simp [tmsA]
theorem o_eqNil {prog : Program} {w : World} {C : Cx w} {E : Value → Shared → Prop} {D : DS} {i j : Nat} {a b : Addr} {l : List Tm} {Q : AV → DS → Prop} (hi : D.rs[i]? = some (one prog w a (.list (tmsA l)))) (hj : D.rs[j]? = some (one prog w b (.list [])))
    (hl : ∀ t ∈ l, t.dep ≤ 50) (h : Q (.d (.bool l.isEmpty)) D) : O2 prog w C E Rv (compareOp .Eq) (.v (.ref a)) (.v (.ref b)) D Q := by
  rw [tmsA_eq] at hi
  have e : (PyData.list (l.map Tm.py)).eqv (.list []) = l.isEmpty := by cases l <;> rfl
  exact o_eqL (xs := l.map Tm.py) (ys := []) hi hj (tms_shaped hl) (by decide +kernel) (e ▸ h)
end Mine
end
section
open PySem PySem.W
set_option maxRecDepth 100000
namespace Mine
/-- what the law says is due -/
noncomputable def dueE (M : Md) (T : List Str) (p ty nm : Tm) : Option Er :=
  match errI p ty nm (namesOf nm) with
  | some e => some e
  | none => match errT p ty nm (namesOf nm) with
    | some e => some e
    | none =>
      if p.snd < 0 ∨ 1200 < p.snd then some (.dom "operator_priority" p.py)
      else if lawClass (T.getD ty.num "") = "" then some (.dom "operator_specifier" ty.py)
      else (namesOf nm).findSome? fun t => (barL M p.snd (T.getD ty.num "") (T.getD t.num "")).map fun a => .perm a "operator" t.py
noncomputable def setM (M : Md) (pr : Int) (tt n : Str) : Md := if 0 < pr then put_ (del_ M (lawClass tt, n)) (lawClass tt, n) (pr, tt) else del_ M (lawClass tt, n)
noncomputable def dueM (M : Md) (T : List Str) (pr : Int) (tt : Str) (l : List Tm) : Md := l.foldl (fun M t => setM M pr tt (T.getD t.num "")) M
theorem dueM_snoc (M : Md) (T : List Str) (pr : Int) (tt : Str) (l : List Tm) (t : Tm) : dueM M T pr tt (l ++ [t]) = setM (dueM M T pr tt l) pr tt (T.getD t.num "") := by unfold dueM; rw [List.foldl_append]; rfl
theorem setM_length (M : Md) (pr : Int) (tt n : Str) : (setM M pr tt n).length ≤ M.length + 1 := by
  unfold setM
  have h1 := del_length M (lawClass tt, n)
  split
  · have h2 := put_length (del_ M (lawClass tt, n)) (lawClass tt, n) (pr, tt); omega
  · omega
theorem dueM_length (T : List Str) (pr : Int) (tt : Str) : ∀ (l : List Tm) (M : Md), (dueM M T pr tt l).length ≤ M.length + l.length
  | [], M => Nat.le_refl _
  | t :: l, M => by
    have h1 := dueM_length T pr tt l (setM M pr tt (T.getD t.num ""))
    have h2 := setM_length M pr tt (T.getD t.num "")
    show (dueM (setM M pr tt (T.getD t.num "")) T pr tt l).length ≤ _
    simp only [List.length_cons]; omega
theorem del_md (M : Md) (a b : Str) : del_ (mdA M) [a, b] = mdA (del_ M (a, b)) := by
  unfold del_ mdA
  rw [List.filter_map]
  congr 1
  apply List.filter_congr
  intro x _
  simp only [Function.comp, ne_eq, decide_not]
  by_cases e1 : x.1 = (a, b)
  · simp [e1]
  · have e2 : ¬ ([x.1.1, x.1.2] = [a, b]) := fun q => e1 (by simp at q; exact Prod.ext q.1 q.2)
    simp [e1, e2]
theorem lawFormal_ne {T : List Str} {G : List (Int × Int)} {name : Str} {parts : List PyData} (h : parts ≠ []) : lawFormal T G name parts = formal T G name parts := if_neg h
theorem namesOf_dot {t : Tm} (h : t.items ≠ []) : namesOf t = t.items := by
  cases t with
  | dot x y => rfl
  | _ => exact absurd rfl h
theorem namesOf_single {t : Tm} (h : t.items = []) : namesOf t = [t] ∧ t.tail = t := by
  cases t with
  | dot x y => cases h
  | _ => exact ⟨rfl, rfl⟩
theorem isA_dot {t : Tm} (h : t.items ≠ []) : t.isA = false := by
  cases t with
  | dot x y => show (("s" : Str) == "a") = false; decide
  | _ => exact absurd rfl h
theorem isNil_isA {t : Tm} (h : t.isNil = true) : t.isA = true ∧ t.isV = false := by
  cases t with
  | a n => exact ⟨show (("a" : Str) == "a") = true by decide, show (("a" : Str) == "v") = false by decide⟩
  | _ => cases h
theorem items_dep : ∀ (t : Tm), ∀ u ∈ t.items, u.dep ≤ t.dep
  | .dot x y, u, h => by
    rcases List.mem_cons.mp h with rfl | h
    · show u.dep ≤ max u.dep y.dep + 2; omega
    · have := items_dep y u h; show u.dep ≤ max x.dep y.dep + 2; omega
  | .v _, u, h => by cases h
  | .i _, u, h => by cases h
  | .a _, u, h => by cases h
  | .s1 _, u, h => by cases h
theorem namesOf_dep (t : Tm) : ∀ u ∈ namesOf t, u.dep ≤ t.dep := by
  cases t with
  | dot x y => exact items_dep (.dot x y)
  | _ => intro u h; rw [List.mem_singleton.mp h]; exact Nat.le_refl _
section
variable {prog : Program} {w : World}
/-- the end of what is due -/
noncomputable def DueQ (prog : Program) (w : World) (B : BA) (T : List Str) (G : List (Int × Int)) (mo : Addr) (M : Md) (p ty nm : Tm) (av : AV) (rs' nw : List Reg) : Prop :=
  nw = [] ∧ ((dueE M T p ty nm = none ∧ av = .d .none ∧ rs' = bookRs prog w B T G ++ [one prog w mo (.dTS (mdA (dueM M T p.snd (T.getD ty.num "") (namesOf nm))))]) ∨
    ∃ er, dueE M T p ty nm = some er ∧ av = .d (er.out T G).1 ∧ rs' = bookRs prog w B (er.out T G).2.1 (er.out T G).2.2 ++ [one prog w mo (.dTS (mdA M))])
theorem dueE_I {M : Md} {T : List Str} {p ty nm : Tm} {e : Er} (h : errI p ty nm (namesOf nm) = some e) : dueE M T p ty nm = some e := by unfold dueE; rw [h]
theorem dueE_T {M : Md} {T : List Str} {p ty nm : Tm} {e : Er} (h1 : errI p ty nm (namesOf nm) = none) (h : errT p ty nm (namesOf nm) = some e) : dueE M T p ty nm = some e := by unfold dueE; rw [h1]; simp only; rw [h]
theorem errI_V {p ty nm : Tm} {l : List Tm} (h : (p.isV || ty.isV || nm.tail.isV) = true) : errI p ty nm l = some .inst := by
  unfold errI
  cases h1 : (p.isV || ty.isV) with
  | true => rfl
  | false => rw [h1] at h; simp only [Bool.false_or] at h; rw [h]; rfl
theorem errI_nV {p ty nm : Tm} {l : List Tm} (h : (p.isV || ty.isV || nm.tail.isV) = false) : errI p ty nm l = if nm.tail.isNil && l.any Tm.isV then some .inst else none := by
  unfold errI
  rw [Bool.or_eq_false_iff] at h
  rw [h.1, h.2]; rfl
theorem two_ok {k : Str} {t : Tm} : ∀ d ∈ [PyData.str k, t.py], (∃ x, d = .str x) ∨ ∃ xs, d = .tuple xs := by
  intro d hd
  rcases List.mem_cons.mp hd with rfl | hd
  · exact .inl ⟨_, rfl⟩
  · rw [List.mem_singleton.mp hd]; exact tupOf t
theorem three_ok {k j : Str} {t : Tm} : ∀ d ∈ [PyData.str k, PyData.str j, t.py], (∃ x, d = .str x) ∨ ∃ xs, d = .tuple xs := by
  intro d hd
  rcases List.mem_cons.mp hd with rfl | hd
  · exact .inl ⟨_, rfl⟩
  · exact two_ok d hd
set_option maxHeartbeats 4000000
theorem fn_lawDue (B : BA) (T : List Str) (G : List (Int × Int)) (M : Md) (mo : Addr) (p ty nm : Tm) (hp : p.Fit) (hy : ty.Fit) (hn : nm.Fit) (hT : T.length ≤ 4000) (hG : G.length ≤ 4000) (hM : M.length ≤ 5000) (hs : ∀ x ∈ T, SeqAt.shaped (.str x) = true)
    (hty : ty.isA = true → ty.num < T.length) (hnm : ∀ t ∈ namesOf nm, t.isA = true → t.num < T.length) :
    Fn prog w (.ref 394) 4 [.v (.ref B.o), .v (.ref mo), .d p.py, .d ty.py, .d nm.py] (bookRs prog w B T G ++ [one prog w mo (.dTS (mdA M))]) (DueQ prog w B T G mo M p ty nm) := by
  refine fn_body ["book", "model", "first", "second", "third"] ["items", "tail", "single", "closed", "item", "priority", "kind", "barred", "place"] (by rfl) (by rfl) (by kernel_rfl) ?_ (by rfl) (by decide) (by decide) (by decide) ?_ (by rfl) (by rfl) (by rfl)
  · intro vals h
    obtain ⟨a, b, c, d, e, rfl⟩ := len5 h
    rfl
  intro C hC ho
  have fin : ∀ (er : Er) (junk : List Reg) (mm : Lc), dueE M T p ty nm = some er → FnEnd (bookRs prog w B T G ++ [one prog w mo (.dTS (mdA M))]) (DueQ prog w B T G mo M p ty nm) (.ret (.d (er.out T G).1)) ⟨mm, (bookRs prog w B (er.out T G).2.1 (er.out T G).2.2 ++ [one prog w mo (.dTS (mdA M))]) ++ junk⟩ := fun er junk mm he =>
    ⟨bookRs prog w B (er.out T G).2.1 (er.out T G).2.2 ++ [one prog w mo (.dTS (mdA M))], [], junk, by rw [List.append_nil], rfl, rfl, .inr ⟨er, he, rfl, rfl⟩⟩
  have fin2 : ∀ (act : Str) (u : Tm) (o : PyData × List Str × List (Int × Int)) (_ : (Er.perm act "operator" u.py).out T G = o) (junk : List Reg) (mm : Lc), dueE M T p ty nm = some (.perm act "operator" u.py) →
      FnEnd (bookRs prog w B T G ++ [one prog w mo (.dTS (mdA M))]) (DueQ prog w B T G mo M p ty nm) (.ret (.d o.1)) ⟨mm, (bookRs prog w B o.2.1 o.2.2 ++ [one prog w mo (.dTS (mdA M))]) ++ junk⟩ := fun act u o ho junk mm he => by
    subst ho; exact fin _ junk mm he
  refine ss_cons <| s_assign (i := 5) <| e_list <| l_nil ⟨by decide, fun a => ⟨⟨_, by rfl⟩, ?_⟩⟩
  refine ss_cons <| s_assign (i := 6) <| e_loc (i := 4) (by rfl) ⟨⟨_, by rfl⟩, ?_⟩
  let L : Tm → Option AV → Option AV → Lc := fun u sg cl => [("book", some (.v (.ref B.o))), ("model", some (.v (.ref mo))), ("first", some (.d p.py)), ("second", some (.d ty.py)), ("third", some (.d nm.py)), ("items", some (.v (.ref a))), ("tail", some (.d u.py)), ("single", sg), ("closed", cl), ("item", none), ("priority", none), ("kind", none), ("barred", none), ("place", none)]
  let R : List Tm → List Reg := fun l => bookRs prog w B T G ++ [one prog w mo (.dTS (mdA M)), one prog w a (.list (tmsA l))]
  refine GV.less (D' := ⟨L nm none none, R []⟩) to_of ?_
  refine ss_cut (fun D₁ => D₁ = ⟨L nm.tail none none, R nm.items⟩) ?_ ?_
  · refine s_while (fun n D' => ∃ pre u, nm.items = pre ++ u.items ∧ nm.tail = u.tail ∧ u.len = n ∧ u.ok ∧ pre.length + u.len = nm.len ∧ D' = ⟨L u none none, R pre⟩) nm.len ⟨_, fun _ d => d, [], nm, rfl, rfl, rfl, hn.ok, by simp, rfl⟩ ?_
    rintro n _ ⟨pre, u, h1, h2, rfl, hok, hl, rfl⟩
    refine b_bool <| b_and <| b_cmp <| e_sub <| e_loc (i := 6) (by rfl) <| e_int <| i_tm (k := 0) u.fld0 <| e_str <| o_tagEq ⟨_, rfl, fun hs => ?_, fun hs => ?_⟩
    rotate_left
    · refine ⟨fun e => absurd e Bool.false_ne_true, fun _ => ?_⟩
      have hd : nm.items = pre ∧ nm.tail = u := by
        cases u with
        | dot x y => simp [Tm.tag] at hs
        | _ => exact ⟨by rw [h1]; simp [Tm.items], h2⟩
      exact ⟨_, fun _ d => d, by rw [hd.1, hd.2]⟩
    refine b_and <| b_cmp <| e_sub <| e_loc (i := 6) (by rfl) <| e_int <| i_tm (k := 1) u.fld1 ?_
    refine e_glob (a := .d (.int 0)) (by rfl) globInt <| o_eq (by rfl) (by rfl) ⟨_, rfl, fun hf => ?_, fun hf => ?_⟩
    rotate_left
    · refine ⟨fun e => absurd e Bool.false_ne_true, fun _ => ?_⟩
      have hd : nm.items = pre ∧ nm.tail = u := by
        cases u with
        | dot x y => simp [Tm.snd, PyData.eqv] at hf
        | _ => exact ⟨by rw [h1]; simp [Tm.items], h2⟩
      exact ⟨_, fun _ d => d, by rw [hd.1, hd.2]⟩
    refine b_and_nil ⟨fun _ => ?_, fun e => absurd e.symm Bool.false_ne_true⟩
    cases u with
    | dot x y =>
      refine ss_cons <| s_expr <| e_meth <| e_loc (i := 5) (by rfl) ⟨_, gm_append (i := 6) (by rfl), kp_builtin, ?_⟩
      refine l_cons <| e_sub <| e_sub <| e_loc (i := 6) (by rfl) <| e_int <| i_tuple (k := 2) (by rfl) <| e_int <| i_tuple (k := 0) (by rfl) ?_
      have hl' : pre.length + (y.len + 1) = nm.len := hl
      have hnl := hn.len
      refine l_nil <| ol_append (i := 6) (by rfl) (by simp; omega) ?_
      refine ss_cons <| s_assign (i := 6) <| e_sub <| e_sub <| e_loc (i := 6) (by rfl) <| e_int <| i_tuple (k := 2) (by rfl) <| e_int <| i_tuple (k := 1) (by rfl) ⟨⟨_, by rfl⟩, ?_⟩
      refine ss_nil ⟨y.len, by simp [Tm.len], ⟨L y none none, R (pre ++ [x])⟩, ?_, pre ++ [x], y, by rw [h1]; simp [Tm.items], by rw [h2]; rfl, rfl, hok.2, by simp; omega, rfl⟩
      rw [show R (pre ++ [x]) = bookRs prog w B T G ++ [one prog w mo (.dTS (mdA M)), one prog w a (.list (tmsA pre ++ [.d x.py]))] from by simp [R, tmsA]]
      exact to_of
    | s1 f =>
      have : f = 0 := by
        have : ((f : Int) == 0) = true := hf
        simpa using this
      exact absurd this hok
    | v k => exact absurd (show (("v" : Str) == "s") = true from hs) (by decide)
    | i k => exact absurd (show (("i" : Str) == "s") = true from hs) (by decide)
    | a k => exact absurd (show (("a" : Str) == "s") = true from hs) (by decide)
  refine w_eq ?_
  have id50 : ∀ u ∈ nm.items, u.dep ≤ 50 := fun u hu => Nat.le_trans (items_dep nm u hu) hn.dep
  have td : nm.tail.dep ≤ 60 := by have := hn.dep; have := nm.tail_dep; omega
  refine ss_cons <| s_assign (i := 7) <| e_cmp <| e_loc (i := 5) (by rfl) <| e_list <| l_nil ⟨by decide, fun q => ?_⟩
  refine o_eqNil (i := 6) (j := 7) (l := nm.items) (by rfl) (by rfl) id50 ⟨⟨_, by rfl⟩, ?_⟩
  refine ss_cons <| s_assign (i := 8) <| e_cmp <| e_loc (i := 6) (by rfl) ?_
  refine e_tuple ?_
  refine l_str ?_
  refine l_cons <| e_glob (a := .d (.int 0)) (by rfl) globInt <| l_nil ⟨[.str "a", .int 0], rfl, by simp, ?_⟩
  refine o_nil td ⟨⟨_, by rfl⟩, ?_⟩
  let V : DS := ⟨L nm.tail (some (.d (.bool nm.items.isEmpty))) (some (.d (.bool nm.tail.isNil))), R nm.items⟩
  refine GV.less (D' := V) to_of ?_
  refine ss_cut (fun D₁ => (p.isV || ty.isV || nm.tail.isV) = false ∧ D₁ = V) ?_ ?_
  · refine s_if <| b_cmp <| e_str <| e_list <| l_cons <| e_sub <| e_loc (i := 2) (by rfl) <| e_int <| i_tm (k := 0) p.fld0 ?_
    refine l_cons <| e_sub <| e_loc (i := 3) (by rfl) <| e_int <| i_tm (k := 0) ty.fld0 ?_
    refine l_cons <| e_sub <| e_loc (i := 6) (by rfl) <| e_int <| i_tm (k := 0) nm.tail.fld0 <| l_nil ⟨by simp, fun q => ?_⟩
    have ev : ([p.tag, ty.tag, nm.tail.tag].any fun y => y == "v") = (p.isV || ty.isV || nm.tail.isV) := by simp [Tm.isV, Bool.or_assoc]
    refine o_inList (i := 7) (xs := [p.tag, ty.tag, nm.tail.tag]) (by rfl) ⟨_, rfl, fun h1 => ?_, fun h1 => ss_nil ⟨V, to_of, ev ▸ h1, rfl⟩⟩
    refine ss_cons <| s_ret <| e_fcall 382 <| l_cons <| e_loc (i := 0) (by rfl) <| l_cons <| e_str <| l_cons <| e_list <| l_nil ⟨by decide, fun pa => l_nil ?_⟩
    refine ol_f (fn_lawFormal B T G "instantiation_error" [] pa hT hG (by simp) (by simp) (by decide +kernel)) [0, 1, 2, 3, 4, 8] ?_
    refine w_x3 ?_
    exact fin .inst [_, _, _] _ (dueE_I (errI_V (ev ▸ h1)))
  refine w_eq' fun eV => ?_
  refine ss_cut (fun D₁ => errI p ty nm (namesOf nm) = none ∧ D₁ = V) ?_ ?_
  · refine s_if <| b_bool <| b_and <| b_not <| b_val <| e_loc (i := 7) (by rfl) <| t_bool ⟨fun h1 => ?_, fun h1 => ⟨fun e => absurd e Bool.false_ne_true, fun _ => ss_nil ⟨V, to_of, ?_, rfl⟩⟩⟩
    rotate_left
    · have he : nm.items = [] := by simpa using h1
      obtain ⟨h2, h3⟩ := namesOf_single he
      rw [errI_nV eV, h2, h3]
      cases h4 : nm.isNil with
      | true => simp [(isNil_isA h4).2]
      | false => rfl
    have ne : nm.items ≠ [] := by simpa using h1
    refine b_and <| b_val <| e_loc (i := 8) (by rfl) <| t_bool ⟨fun h2 => ?_, fun h2 => ⟨fun e => absurd e Bool.false_ne_true, fun _ => ss_nil ⟨V, to_of, by rw [errI_nV eV, h2]; rfl, rfl⟩⟩⟩
    refine b_and <| b_val <| e_listcomp [] (by rfl) (by decide) (by rfl) (by decide) (by rfl) <| e_loc (i := 5) (by rfl) ⟨a, tmsA nm.items, 6, rfl, by rfl, ?_, fun k ys rs => rs = R nm.items ∧ ys = ((nm.items.take k).filter Tm.isV).map fun _ => AV.d (.int 1), ⟨rfl, rfl⟩, ?_, ?_, ?_⟩
    · have := hn.len; simp [nm.items_length]; omega
    · rintro k ys _ ⟨rfl, _⟩
      simp [R]
    · rintro CL Dl I hCL k y ys _ hy ⟨rfl, rfl⟩
      obtain ⟨u, hu, rfl⟩ : ∃ u, nm.items[k]? = some u ∧ y = .d u.py := by
        simp only [List.getElem?_map, Option.map_eq_some_iff] at hy
        obtain ⟨u, h1, rfl⟩ := hy
        exact ⟨u, h1, rfl⟩
      have tk : nm.items.take (k + 1) = nm.items.take k ++ [u] := by rw [List.take_add_one, hu]; rfl
      refine t_one <| b_cmp <| e_sub <| e_loc (i := 0) (by rfl) <| e_int <| i_tm (k := 0) u.fld0 <| e_str <| o_tagEq ⟨_, rfl, fun h3 => ?_, fun h3 => ?_⟩
      · refine e_int ⟨R nm.items, to_of, rfl, ?_⟩
        rw [tk, List.filter_append, List.map_append]
        simp [Tm.isV, h3]
      · refine ⟨R nm.items, to_of, rfl, ?_⟩
        rw [tk, List.filter_append, List.map_append]
        simp [Tm.isV, h3]
    · rintro Dl ys _ ⟨rfl, rfl⟩ _
      have el : (tmsA nm.items).length = nm.items.length := by simp
      have hnl := hn.len
      have hfl := List.length_filter_le Tm.isV (nm.items.take (tmsA nm.items).length)
      have htl : (nm.items.take (tmsA nm.items).length).length ≤ 50 := by rw [el, List.take_length, nm.items_length]; exact hnl
      refine t_list (i := 7) (by rfl) (by rw [List.length_map]; omega) ?_
      have ea : decide (0 < (((nm.items.take (tmsA nm.items).length).filter Tm.isV).map fun _ => AV.d (.int 1)).length) = (namesOf nm).any Tm.isV := by
        rw [el, List.take_length, List.length_map, namesOf_dot ne]
        cases h4 : nm.items.any Tm.isV with
        | true =>
          obtain ⟨x, hx1, hx2⟩ := List.any_eq_true.mp h4
          exact decide_eq_true (List.length_pos_of_mem (List.mem_filter.mpr ⟨hx1, hx2⟩))
        | false =>
          have : nm.items.filter Tm.isV = [] := by
            rw [List.filter_eq_nil_iff]
            intro x hx hx2
            rw [List.any_eq_false] at h4
            exact h4 x hx hx2
          rw [this]; rfl
      rw [ea]
      refine ⟨fun h4 => b_and_nil ⟨fun _ => ?_, fun e => absurd e.symm Bool.false_ne_true⟩, fun h4 => ⟨fun e => absurd e Bool.false_ne_true, fun _ => ss_nil ⟨V, to_of, by rw [errI_nV eV, h2, h4]; rfl, rfl⟩⟩⟩
      refine ss_cons <| s_ret <| e_fcall 382 <| l_cons <| e_loc (i := 0) (by rfl) <| l_cons <| e_str <| l_cons <| e_list <| l_nil ⟨by decide, fun pa => l_nil ?_⟩
      refine ol_f (fn_lawFormal B T G "instantiation_error" [] pa hT hG (by simp) (by simp) (by decide +kernel)) [0, 1, 2, 3, 4, 8] ?_
      refine w_x3 ?_
      exact fin .inst [_, _, _] _ (dueE_I (by rw [errI_nV eV, h2, h4]; rfl))
  refine w_eq' fun eI => ?_
  refine ss_cons <| s_if <| b_cmp <| e_sub <| e_loc (i := 2) (by rfl) <| e_int <| i_tm (k := 0) p.fld0 <| e_str <| o_tagNe ⟨_, rfl, fun h1 => ?_, fun h1 => ?_⟩
  · refine ss_cons <| s_ret <| e_fcall 382 <| l_cons <| e_loc (i := 0) (by rfl) <| l_cons <| e_str <| l_cons <| e_list <| l_cons <| e_str <| l_cons <| e_loc (i := 2) (by rfl) <| l_nil ⟨by simp, fun pa => l_nil ?_⟩
    refine ol_f (fn_lawFormal B T G "type_error" [.str "integer", p.py] pa hT hG (by simp) two_ok (shaped2 (strK _ (by simp)) hp.dep)) [0, 1, 2, 3, 4, 7] ?_
    refine w_x3 ?_
    rw [lawFormal_ne (List.cons_ne_nil _ _)]
    exact fin (.ty "integer" p.py) [_, _] _ (dueE_T eI (by unfold errT; rw [if_pos (show (!p.isI) = true from h1)]))
  have e1 : ¬ ((!p.isI) = true) := fun q => by rw [show (!p.isI) = false from h1] at q; cases q
  refine ss_nil <| ss_cons <| s_if <| b_cmp <| e_sub <| e_loc (i := 3) (by rfl) <| e_int <| i_tm (k := 0) ty.fld0 <| e_str <| o_tagNe ⟨_, rfl, fun h2 => ?_, fun h2 => ?_⟩
  · refine ss_cons <| s_ret <| e_fcall 382 <| l_cons <| e_loc (i := 0) (by rfl) <| l_cons <| e_str <| l_cons <| e_list <| l_cons <| e_str <| l_cons <| e_loc (i := 3) (by rfl) <| l_nil ⟨by simp, fun pa => l_nil ?_⟩
    refine ol_f (fn_lawFormal B T G "type_error" [.str "atom", ty.py] pa hT hG (by simp) two_ok (shaped2 (strK _ (by simp)) hy.dep)) [0, 1, 2, 3, 4, 7] ?_
    refine w_x3 ?_
    rw [lawFormal_ne (List.cons_ne_nil _ _)]
    exact fin (.ty "atom" ty.py) [_, _] _ (dueE_T eI (by unfold errT; rw [if_neg e1, if_pos (show (!ty.isA) = true from h2)]))
  have e2 : ¬ ((!ty.isA) = true) := fun q => by rw [show (!ty.isA) = false from h2] at q; cases q
  refine ss_nil ?_
  refine GV.less (D' := V) (fun s d => d) ?_
  refine ss_cut (fun D₁ => (!nm.isA && !nm.tail.isNil) = false ∧ D₁ = V) ?_ ?_
  · have bad : (!nm.isA && !nm.tail.isNil) = true → ∀ (mm : Lc) (pa : Addr), FnEnd (bookRs prog w B T G ++ [one prog w mo (.dTS (mdA M))]) (DueQ prog w B T G mo M p ty nm) (.ret (.d (formal T G "type_error" [.str "list", nm.py]).1))
        ⟨mm, (bookRs prog w B (Er.out T G (.ty "list" nm.py)).2.1 (Er.out T G (.ty "list" nm.py)).2.2 ++ [one prog w mo (.dTS (mdA M))]) ++ [one prog w a (.list (tmsA nm.items)), one prog w pa (.list ([.str "list", nm.py].map .d))]⟩ := fun h mm pa =>
      fin (.ty "list" nm.py) _ _ (dueE_T eI (by unfold errT; rw [if_neg e1, if_neg e2, if_pos h]))
    refine s_if <| b_bool <| b_or <| b_bool <| b_and <| b_val <| e_loc (i := 7) (by rfl) <| t_bool ⟨fun h3 => ?_, fun h3 => ?_⟩
    · have he : nm.items = [] := by simpa using h3
      obtain ⟨-, ht⟩ := namesOf_single he
      refine b_and <| b_cmp <| e_sub <| e_loc (i := 4) (by rfl) <| e_int <| i_tm (k := 0) nm.fld0 <| e_str <| o_tagNe ⟨_, rfl, fun h4 => b_and_nil ⟨fun _ => ⟨fun _ => ?_, fun e => absurd e.symm Bool.false_ne_true⟩, fun e => absurd e.symm Bool.false_ne_true⟩, fun h4 => ⟨fun e => absurd e Bool.false_ne_true, fun _ => ?_⟩⟩
      · have h4' : nm.isA = false := by simpa [Tm.isA] using h4
        have hnn : nm.isNil = false := by
          cases h5 : nm.isNil with
          | true => rw [(isNil_isA h5).1] at h4'; cases h4'
          | false => rfl
        refine ss_cons <| s_ret <| e_fcall 382 <| l_cons <| e_loc (i := 0) (by rfl) <| l_cons <| e_str <| l_cons <| e_list <| l_cons <| e_str <| l_cons <| e_loc (i := 4) (by rfl) <| l_nil ⟨by simp, fun pa => l_nil ?_⟩
        refine ol_f (fn_lawFormal B T G "type_error" [.str "list", nm.py] pa hT hG (by simp) two_ok (shaped2 (strK _ (by simp)) hn.dep)) [0, 1, 2, 3, 4, 7] ?_
        refine w_x3 ?_
        rw [lawFormal_ne (List.cons_ne_nil _ _)]
        exact bad (by rw [ht, h4', hnn]; rfl) _ pa
      · refine b_or <| b_bool <| b_and <| b_not <| b_val <| e_loc (i := 7) (by rfl) <| t_bool ⟨fun h5 => ?_, fun h5 => ⟨fun e => absurd e Bool.false_ne_true, fun _ => b_or_nil ⟨fun e => absurd e Bool.false_ne_true, fun _ => ss_nil ⟨V, to_of, ?_, rfl⟩⟩⟩⟩
        · rw [h3] at h5; cases h5
        · rw [show (!nm.isA) = false from h4]; rfl
    · have hne : nm.items ≠ [] := by simpa using h3
      have hA := isA_dot hne
      refine ⟨fun e => absurd e Bool.false_ne_true, fun _ => ?_⟩
      refine b_or <| b_bool <| b_and <| b_not <| b_val <| e_loc (i := 7) (by rfl) <| t_bool ⟨fun h5 => ?_, fun h5 => ?_⟩
      rotate_left
      · rw [h3] at h5; cases h5
      refine b_and <| b_not <| b_val <| e_loc (i := 8) (by rfl) <| t_bool ⟨fun h6 => b_and_nil ⟨fun _ => ⟨fun _ => ?_, fun e => absurd e.symm Bool.false_ne_true⟩, fun e => absurd e.symm Bool.false_ne_true⟩, fun h6 => ⟨fun e => absurd e Bool.false_ne_true, fun _ => b_or_nil ⟨fun e => absurd e Bool.false_ne_true, fun _ => ss_nil ⟨V, to_of, ?_, rfl⟩⟩⟩⟩
      · refine ss_cons <| s_ret <| e_fcall 382 <| l_cons <| e_loc (i := 0) (by rfl) <| l_cons <| e_str <| l_cons <| e_list <| l_cons <| e_str <| l_cons <| e_loc (i := 4) (by rfl) <| l_nil ⟨by simp, fun pa => l_nil ?_⟩
        refine ol_f (fn_lawFormal B T G "type_error" [.str "list", nm.py] pa hT hG (by simp) two_ok (shaped2 (strK _ (by simp)) hn.dep)) [0, 1, 2, 3, 4, 7] ?_
        refine w_x3 ?_
        rw [lawFormal_ne (List.cons_ne_nil _ _)]
        exact bad (by rw [hA, h6]; rfl) _ pa
      · rw [h6, Bool.and_false]
  refine w_eq' fun e3 => ?_
  have e3' : ¬ ((!nm.isA && !nm.tail.isNil) = true) := fun q => by rw [e3] at q; cases q
  have valT : errT p ty nm (namesOf nm) = ((namesOf nm).find? fun t => !t.isA).map fun t => .ty "atom" t.py := by unfold errT; rw [if_neg e1, if_neg e2, if_neg e3']
  generalize hl : namesOf nm = l at eI valT hnm
  have l50 : ∀ u ∈ l, u.dep ≤ 50 := fun u hu => Nat.le_trans (namesOf_dep nm u (hl ▸ hu)) hn.dep
  have l60 : l.length ≤ 60 := by
    have h1 := hn.len
    rw [← hl]
    cases nm with
    | dot x y => show (y.items.length + 1) ≤ 60; rw [y.items_length]; have : y.len + 1 ≤ 50 := h1; omega
    | _ => simp [namesOf]
  let U : Addr → Option AV → Option AV → List Reg → DS := fun b pr kd j => ⟨[("book", some (.v (.ref B.o))), ("model", some (.v (.ref mo))), ("first", some (.d p.py)), ("second", some (.d ty.py)), ("third", none), ("items", some (.v (.ref b))), ("tail", none), ("single", none), ("closed", none), ("item", none), ("priority", pr), ("kind", kd), ("barred", none), ("place", none)],
    bookRs prog w B T G ++ [one prog w mo (.dTS (mdA M)), one prog w b (.list (tmsA l))] ++ j⟩
  refine ss_cut (fun D₁ => ∃ b, D₁ = U b none none []) ?_ ?_
  · refine s_if <| b_val <| e_loc (i := 7) (by rfl) <| t_bool ⟨fun h3 => ?_, fun h3 => ?_⟩
    · have he : nm.items = [] := by simpa using h3
      obtain ⟨hl', -⟩ := namesOf_single he
      have e5 : l = [nm] := hl.symm.trans hl'
      refine ss_cons <| s_assign (i := 5) <| e_list <| l_cons <| e_loc (i := 4) (by rfl) <| l_nil ⟨by simp, fun b => ⟨⟨_, by rfl⟩, ss_nil ⟨U b none none [], ?_, b, rfl⟩⟩⟩
      simp only [U, e5]
      exact to_oS
    · have hne : nm.items ≠ [] := by simpa using h3
      have e5 : l = nm.items := hl.symm.trans (namesOf_dot hne)
      refine ss_nil ⟨U a none none [], ?_, a, rfl⟩
      simp only [U, e5]
      exact to_of
  refine w_eqe fun b => ?_
  refine ss_cut (fun D₁ => (l.find? fun t => !t.isA) = none ∧ D₁ = U b none none []) ?_ ?_
  · refine s_for <| e_loc (i := 5) (by rfl) ?_
    refine oi_list (i := 6) (by rfl) fun I => ⟨srcList prog C I b (tmsA l), rfl, fun k D' => ((l.take k).find? fun t => !t.isA) = none ∧ D' = U b none none [], ?_, ⟨_, to_of, rfl, rfl⟩, ?_, ?_⟩
    · rintro k _ ⟨_, rfl⟩ r hr
      rw [List.mem_singleton.mp hr]
      simp [U]
    rotate_left
    · refine w_eq' fun e => ?_
      refine ⟨_, fun _ d => d, ?_, rfl⟩
      rwa [show (srcList prog C I b (tmsA l)).l.length = l.length from by simp [srcList], List.take_length] at e
    rintro k x _ hx ⟨e, rfl⟩
    obtain ⟨u, hu, rfl⟩ : ∃ u, l[k]? = some u ∧ x = .d u.py := by
      simp only [srcList, List.getElem?_map, Option.map_eq_some_iff] at hx
      obtain ⟨u, h1, rfl⟩ := hx
      exact ⟨u, h1, rfl⟩
    have tk : l.take (k + 1) = l.take k ++ [u] := by rw [List.take_add_one, hu]; rfl
    refine as_name (i := 9) (by rfl) ?_
    refine ss_cons <| s_if <| b_cmp <| e_sub <| e_loc (i := 9) (by rfl) <| e_int <| i_tm (k := 0) u.fld0 <| e_str <| o_tagNe ⟨_, rfl, fun h5 => ?_, fun h5 => ?_⟩
    · refine ss_cons <| s_ret <| e_fcall 382 <| l_cons <| e_loc (i := 0) (by rfl) <| l_cons <| e_str <| l_cons <| e_list <| l_cons <| e_str <| l_cons <| e_loc (i := 9) (by rfl) <| l_nil ⟨by simp, fun pa => l_nil ?_⟩
      refine ol_f (fn_lawFormal B T G "type_error" [.str "atom", u.py] pa hT hG (by simp) two_ok (shaped2 (strK _ (by simp)) (l50 u (List.mem_of_getElem? hu)))) [0, 1, 2, 3, 4, 8] ?_
      refine w_x3 ?_
      rw [lawFormal_ne (List.cons_ne_nil _ _)]
      exact fin (.ty "atom" u.py) [_, _, _] _ (dueE_T (hl ▸ eI) (by
        rw [hl, valT]
        have : l = (l.take k ++ [u]) ++ l.drop (k + 1) := by rw [← tk]; exact (List.take_append_drop _ _).symm
        rw [this, List.find?_append, List.find?_append, e]
        have h5' : (!u.isA) = true := h5
        simp [h5']))
    · refine ss_nil <| ss_nil ⟨_, to_of, ?_, rfl⟩
      rw [tk, List.find?_append, e]
      have h5' : (!u.isA) = false := h5
      simp [h5']
  refine w_eq' fun e4 => ?_
  have eT : errT p ty nm l = none := by rw [valT, e4]; rfl
  obtain ⟨pI, tA, iA⟩ := errT_none eT
  have tlt := hty tA
  obtain ⟨tt, htt⟩ : ∃ tt, T[ty.num]? = some tt := ⟨_, List.getElem?_eq_getElem tlt⟩
  have tsh := hs tt (List.mem_of_getElem? htt)
  have gD : T.getD ty.num "" = tt := by simp [htt]
  have val : dueE M T p ty nm = if p.snd < 0 ∨ 1200 < p.snd then some (.dom "operator_priority" p.py) else if lawClass tt = "" then some (.dom "operator_specifier" ty.py) else l.findSome? fun t => (barL M p.snd tt (T.getD t.num "")).map fun a => .perm a "operator" t.py := by
    unfold dueE; rw [hl, eI]; simp only; rw [eT]; simp only; rw [gD]
  refine ss_cons <| s_assign (i := 10) <| e_sub <| e_loc (i := 2) (by rfl) <| e_int <| i_tm (k := 1) p.fld1 ⟨⟨_, by rfl⟩, ?_⟩
  refine ss_cons <| s_assign (i := 11) <| e_meth <| e_loc (i := 0) (by rfl) ⟨_, gm_inst 95 (i := 0) (by rfl), kp_K (by kernel_rfl), ?_⟩
  refine l_cons <| e_sub <| e_loc (i := 3) (by rfl) <| e_int <| i_tm (k := 1) ty.fld1 ?_
  rw [Tm.num_snd tA]
  refine l_nil <| ol_f (fn_text B T G ty.num tt (by omega) htt) [0, 1, 2, 3, 4] ?_
  refine w_x3 ?_
  refine ⟨⟨_, by rfl⟩, ?_⟩
  refine GV.less (D' := U b (some (.d (.int p.snd))) (some (.d (.str tt))) []) (fun s d => d) ?_
  have dom1 : (p.snd < 0 ∨ 1200 < p.snd) → ∀ (mm : Lc) (pa : Addr), FnEnd (bookRs prog w B T G ++ [one prog w mo (.dTS (mdA M))]) (DueQ prog w B T G mo M p ty nm) (.ret (.d (formal T G "domain_error" [.str "operator_priority", p.py]).1))
        ⟨mm, (bookRs prog w B (Er.out T G (.dom "operator_priority" p.py)).2.1 (Er.out T G (.dom "operator_priority" p.py)).2.2 ++ [one prog w mo (.dTS (mdA M))]) ++ [one prog w b (.list (tmsA l)), one prog w pa (.list ([.str "operator_priority", p.py].map .d))]⟩ := fun h mm pa =>
      fin (.dom "operator_priority" p.py) _ _ (by rw [val, if_pos h])
  refine ss_cut (fun D₁ => ¬ (p.snd < 0 ∨ 1200 < p.snd) ∧ D₁ = U b (some (.d (.int p.snd))) (some (.d (.str tt))) []) ?_ ?_
  · refine s_if <| b_not <| b_chain <| e_int <| e_loc (i := 10) (by rfl) <| o_le ⟨_, rfl, fun h1 => ?_, fun h1 => e_int <| o_le ⟨_, rfl, ?_⟩⟩
    · refine ⟨fun _ => ?_, fun e => absurd e.symm Bool.false_ne_true⟩
      have h1' : ¬ 0 ≤ p.snd := of_decide_eq_false h1
      refine ss_cons <| s_ret <| e_fcall 382 <| l_cons <| e_loc (i := 0) (by rfl) <| l_cons <| e_str <| l_cons <| e_list <| l_cons <| e_str <| l_cons <| e_loc (i := 2) (by rfl) <| l_nil ⟨by simp, fun pa => l_nil ?_⟩
      refine ol_f (fn_lawFormal B T G "domain_error" [.str "operator_priority", p.py] pa hT hG (by simp) two_ok (shaped2 (strK _ (by simp)) hp.dep)) [0, 1, 2, 3, 4, 7] ?_
      refine w_x3 ?_
      rw [lawFormal_ne (List.cons_ne_nil _ _)]
      exact dom1 (.inl (by omega)) _ pa
    · have h1' : 0 ≤ p.snd := of_decide_eq_true h1
      refine ⟨fun h2 => ?_, fun h2 => ?_⟩
      · have h2' : ¬ p.snd ≤ 1200 := by simpa using h2
        refine ss_cons <| s_ret <| e_fcall 382 <| l_cons <| e_loc (i := 0) (by rfl) <| l_cons <| e_str <| l_cons <| e_list <| l_cons <| e_str <| l_cons <| e_loc (i := 2) (by rfl) <| l_nil ⟨by simp, fun pa => l_nil ?_⟩
        refine ol_f (fn_lawFormal B T G "domain_error" [.str "operator_priority", p.py] pa hT hG (by simp) two_ok (shaped2 (strK _ (by simp)) hp.dep)) [0, 1, 2, 3, 4, 7] ?_
        refine w_x3 ?_
        rw [lawFormal_ne (List.cons_ne_nil _ _)]
        exact dom1 (.inr (by omega)) _ pa
      · have h2' : p.snd ≤ 1200 := by simpa using h2
        exact ss_nil ⟨_, fun _ d => d, by omega, rfl⟩
  refine w_eq' fun h0 => ?_
  rw [if_neg h0] at val
  have csh : SeqAt.shaped (.str (lawClass tt)) = true := by rcases lawClass_cases tt with h | h | h | h <;> rw [h] <;> decide +kernel
  refine ss_cut (fun D₁ => lawClass tt ≠ "" ∧ D₁ = U b (some (.d (.int p.snd))) (some (.d (.str tt))) []) ?_ ?_
  · refine s_if <| b_cmp <| e_fcall 370 <| l_cons <| e_loc (i := 11) (by rfl) <| l_nil <| ol_f (fn_class tt) [] ?_
    refine w_x3 ?_
    refine e_str <| o_eq csh (by decide +kernel) ⟨lawClass tt == "", rfl, fun h1 => ?_, fun h1 => ss_nil ⟨_, to_of, by simpa using h1, rfl⟩⟩
    refine ss_cons <| s_ret <| e_fcall 382 <| l_cons <| e_loc (i := 0) (by rfl) <| l_cons <| e_str <| l_cons <| e_list <| l_cons <| e_str <| l_cons <| e_loc (i := 3) (by rfl) <| l_nil ⟨by simp, fun pa => l_nil ?_⟩
    refine ol_f (fn_lawFormal B T G "domain_error" [.str "operator_specifier", ty.py] pa hT hG (by simp) two_ok (shaped2 (strK _ (by simp)) hy.dep)) [0, 1, 2, 3, 4, 7] ?_
    refine w_x3 ?_
    rw [lawFormal_ne (List.cons_ne_nil _ _)]
    exact fin (.dom "operator_specifier" ty.py) [_, _] _ (by rw [val, if_pos (by simpa using h1)])
  refine w_eq' fun hc => ?_
  rw [if_neg hc] at val
  have itm : ∀ u ∈ l, ∃ n, T[u.num]? = some n ∧ T.getD u.num "" = n ∧ SeqAt.shaped (.str n) = true := fun u hu => by
    have lt := hnm u hu (iA u hu)
    obtain ⟨n, h1⟩ : ∃ n, T[u.num]? = some n := ⟨_, List.getElem?_eq_getElem lt⟩
    exact ⟨n, h1, by simp [h1], hs n (List.mem_of_getElem? h1)⟩
  refine ss_cut (fun D₁ => (l.findSome? fun t => (barL M p.snd tt (T.getD t.num "")).map fun a => Er.perm a "operator" t.py) = none ∧ D₁ = U b (some (.d (.int p.snd))) (some (.d (.str tt))) []) ?_ ?_
  · refine s_for <| e_loc (i := 5) (by rfl) ?_
    refine oi_list (i := 6) (by rfl) fun I => ⟨srcList prog C I b (tmsA l), rfl, fun k D' => ((l.take k).findSome? fun t => (barL M p.snd tt (T.getD t.num "")).map fun a => Er.perm a "operator" t.py) = none ∧ D' = U b (some (.d (.int p.snd))) (some (.d (.str tt))) [], ?_, ⟨_, to_of, rfl, rfl⟩, ?_, ?_⟩
    · rintro k _ ⟨_, rfl⟩ r hr
      rw [List.mem_singleton.mp hr]
      simp [U]
    rotate_left
    · refine w_eq' fun e => ?_
      refine ⟨_, fun _ d => d, ?_, rfl⟩
      rwa [show (srcList prog C I b (tmsA l)).l.length = l.length from by simp [srcList], List.take_length] at e
    rintro k x _ hx ⟨e, rfl⟩
    obtain ⟨u, hu, rfl⟩ : ∃ u, l[k]? = some u ∧ x = .d u.py := by
      simp only [srcList, List.getElem?_map, Option.map_eq_some_iff] at hx
      obtain ⟨u, h1, rfl⟩ := hx
      exact ⟨u, h1, rfl⟩
    have tk : l.take (k + 1) = l.take k ++ [u] := by rw [List.take_add_one, hu]; rfl
    have hul := List.mem_of_getElem? hu
    obtain ⟨n, hn1, hn2, hn3⟩ := itm u hul
    refine as_name (i := 9) (by rfl) ?_
    refine ss_cons <| s_assign (i := 12) <| e_fcall 389 <| l_cons <| e_loc (i := 0) (by rfl) <| l_cons <| e_loc (i := 1) (by rfl) <| l_cons <| e_loc (i := 10) (by rfl) <| l_cons <| e_loc (i := 11) (by rfl) <| l_cons <| e_loc (i := 9) (by rfl) <| l_nil ?_
    refine ol_f (fn_lawBarred B T G M mo p.snd tt n u hT (iA u hul) hn1 hn3 hc) [0, 1, 2, 3, 4, 5] ?_
    rintro _ _ _ ⟨r, rfl, rfl, rfl⟩
    refine ⟨⟨_, by rfl⟩, ?_⟩
    refine ss_cons <| s_if <| b_cmp <| e_loc (i := 12) (by rfl) <| e_list <| l_nil ⟨by decide, fun q => ?_⟩
    have hd := l50 u hul
    cases hb : barL M p.snd tt n with
    | none =>
      refine o_neL (i := 8) (j := 9) (xs := []) (ys := []) (by rfl) (by rfl) (by decide +kernel) (by decide +kernel) ⟨false, rfl, fun e => absurd e Bool.false_ne_true, fun _ => ?_⟩
      refine ss_nil <| ss_nil ⟨_, to_of, ?_, rfl⟩
      rw [tk, List.findSome?_append, e]
      simp only [Option.none_or, List.findSome?_cons, hn2, hb, Option.map_none, List.findSome?_nil]
    | some act =>
      have hact : act = "modify" ∨ act = "create" := by
        unfold barL at hb
        split at hb
        · exact .inl (by simpa using hb.symm)
        · split at hb
          · exact .inr (by simpa using hb.symm)
          · split at hb
            · exact .inr (by simpa using hb.symm)
            · split at hb
              · exact .inr (by simpa using hb.symm)
              · cases hb
      have sh : SeqAt.shaped (.list [.str act, .str "operator", u.py]) = true := shaped3 (by rcases hact with h | h <;> rw [h] <;> exact strK _ (by simp)) (strK _ (by simp)) hd
      refine o_neL (i := 8) (j := 9) (xs := [.str act, .str "operator", u.py]) (ys := []) (by rfl) (by rfl) sh (by decide +kernel) ⟨true, rfl, fun _ => ?_, fun e => absurd e.symm Bool.false_ne_true⟩
      refine GV.less (D' := ⟨[("book", some (.v (.ref B.o))), ("model", none), ("first", none), ("second", none), ("third", none), ("items", none), ("tail", none), ("single", none), ("closed", none), ("item", none), ("priority", none), ("kind", none), ("barred", some (.v (.ref r))), ("place", none)], bookRs prog w B T G ++ [one prog w mo (.dTS (mdA M)), one prog w r (.list ((barLst (some act) u).map .d))]⟩) to_oS ?_
      refine ss_cons <| s_ret <| e_fcall 382 <| l_cons <| e_loc (i := 0) (by rfl) <| l_cons <| e_str <| l_cons <| e_loc (i := 12) (by rfl) <| l_nil ?_
      refine ol_f (fn_lawFormal B T G "permission_error" [.str act, .str "operator", u.py] r hT hG (by simp) three_ok sh) [0, 1, 2, 3, 4, 6] ?_
      refine w_x3 ?_
      rw [lawFormal_ne (List.cons_ne_nil _ _)]
      exact fin2 act u (formal T G "permission_error" [.str act, .str "operator", u.py]) rfl [_] _ (by
        rw [val]
        have : l = (l.take k ++ [u]) ++ l.drop (k + 1) := by rw [← tk]; exact (List.take_append_drop _ _).symm
        rw [this, List.findSome?_append, List.findSome?_append, e]
        simp [hn1, hb])
  refine w_eq' fun e5 => ?_
  rw [e5] at val
  let Y : Md → DS := fun M' => ⟨[("book", some (.v (.ref B.o))), ("model", some (.v (.ref mo))), ("first", none), ("second", none), ("third", none), ("items", some (.v (.ref b))), ("tail", none), ("single", none), ("closed", none), ("item", none), ("priority", some (.d (.int p.snd))), ("kind", some (.d (.str tt))), ("barred", none), ("place", none)],
    bookRs prog w B T G ++ [one prog w mo (.dTS (mdA M')), one prog w b (.list (tmsA l))]⟩
  refine ss_cut (fun D₁ => D₁ = Y (dueM M T p.snd tt l)) ?_ ?_
  rotate_left
  · refine w_eq ?_
    refine ss_cons <| s_ret <| e_none ?_
    exact ⟨bookRs prog w B T G ++ [one prog w mo (.dTS (mdA (dueM M T p.snd tt l)))], [], [_], .refl _, rfl, rfl, .inl ⟨val, rfl, by rw [gD, hl]⟩⟩
  refine s_for <| e_loc (i := 5) (by rfl) ?_
  refine oi_list (i := 6) (by rfl) fun I => ⟨srcList prog C I b (tmsA l), rfl, fun k D' => D' = Y (dueM M T p.snd tt (l.take k)), ?_, ⟨Y (dueM M T p.snd tt (l.take 0)), to_of, rfl⟩, ?_, ?_⟩
  · rintro k _ rfl r hr
    rw [List.mem_singleton.mp hr]
    simp [Y]
  rotate_left
  · refine w_eq ?_
    refine ⟨_, fun _ d => d, ?_⟩
    rw [show (srcList prog C I b (tmsA l)).l.length = l.length from by simp [srcList], List.take_length]
  rintro k x _ hx rfl
  obtain ⟨u, hu, rfl⟩ : ∃ u, l[k]? = some u ∧ x = .d u.py := by
    simp only [srcList, List.getElem?_map, Option.map_eq_some_iff] at hx
    obtain ⟨u, h1, rfl⟩ := hx
    exact ⟨u, h1, rfl⟩
  have tk : l.take (k + 1) = l.take k ++ [u] := by rw [List.take_add_one, hu]; rfl
  have hul := List.mem_of_getElem? hu
  obtain ⟨n, hn1, hn2, hn3⟩ := itm u hul
  have hMl : (dueM M T p.snd tt (l.take k)).length ≤ 9000 := by
    have h1 := dueM_length T p.snd tt (l.take k) M
    have h2 : (l.take k).length ≤ l.length := by rw [List.length_take]; omega
    omega
  have hnx : dueM M T p.snd tt (l.take (k + 1)) = setM (dueM M T p.snd tt (l.take k)) p.snd tt n := by rw [tk, dueM_snoc, hn2]
  generalize dueM M T p.snd tt (l.take k) = M' at hMl hnx
  refine as_name (i := 9) (by rfl) ?_
  refine ss_cons <| s_assign (i := 13) ?_
  refine e_tuple ?_
  refine l_cons <| e_fcall 370 <| l_cons <| e_loc (i := 11) (by rfl) <| l_nil <| ol_f (fn_class tt) [] ?_
  refine w_x3 ?_
  refine l_cons <| e_meth <| e_loc (i := 0) (by rfl) ⟨_, gm_inst 95 (i := 0) (by rfl), kp_K (by kernel_rfl), ?_⟩
  refine l_cons <| e_sub <| e_loc (i := 9) (by rfl) <| e_int <| i_tm (k := 1) u.fld1 ?_
  rw [Tm.num_snd (iA u hul)]
  refine l_nil <| ol_f (fn_text B T G u.num n (by omega) hn1) [0, 1, 2, 3, 4] ?_
  refine w_x3 ?_
  refine l_nil ⟨[.str (lawClass tt), .str n], rfl, by simp, ⟨_, by rfl⟩, ?_⟩
  refine ss_cons <| s_expr <| e_meth <| e_loc (i := 1) (by rfl) ⟨_, gm_popH (hpS prog w) (i := 5) (by rfl), kp_builtin, ?_⟩
  refine l_cons <| e_loc (i := 13) (by rfl) <| l_cons <| e_none <| l_nil <| ol_popH (hpS prog w) (k := [lawClass tt, n]) (i := 5) (by rfl) (by simp [mdA]; omega) fun av => ?_
  rw [del_md]
  refine ss_cons <| s_if <| b_cmp <| e_loc (i := 10) (by rfl) <| e_int <| o_gt ⟨_, rfl, fun h1 => ?_, fun h1 => ?_⟩
  · refine ss_cons <| s_setitem ?_
    refine e_tuple ?_
    refine l_cons <| e_loc (i := 10) (by rfl) <| l_cons <| e_loc (i := 11) (by rfl) <| l_nil ⟨[.int p.snd, .str tt], rfl, by simp, ?_⟩
    refine e_loc (i := 1) (by rfl) <| e_loc (i := 13) (by rfl) <| u_setH (hpS prog w) (k := [lawClass tt, n]) (i := 5) (by rfl) ?_ ?_
    · have := del_length M' (lawClass tt, n); simp [mdA]; omega
    rw [show put_ (mdA (del_ M' (lawClass tt, n))) [lawClass tt, n] (.d (.tuple [.int p.snd, .str tt])) = mdA (put_ (del_ M' (lawClass tt, n)) (lawClass tt, n) (p.snd, tt)) from put_md (del_ M' (lawClass tt, n)) (lawClass tt) n (p.snd, tt)]
    refine ss_nil <| ss_nil ⟨Y (put_ (del_ M' (lawClass tt, n)) (lawClass tt, n) (p.snd, tt)), to_of, congrArg Y ?_⟩
    rw [hnx]; unfold setM; rw [if_pos (of_decide_eq_true h1)]
  · refine ss_nil <| ss_nil ⟨Y (del_ M' (lawClass tt, n)), to_of, congrArg Y ?_⟩
    rw [hnx]; unfold setM; rw [if_neg (of_decide_eq_false h1)]
end
end Mine
end
section
open PySem PySem.W
set_option maxRecDepth 100000
namespace Mine
section
variable {prog : Program} {w : World} {C : Cx w} {E : Value → Shared → Prop} {D : DS} {env : Env} {pos : Pos}
theorem ol_reversed {i : Nat} {a : Addr} {l : List AV} {Q : AV → DS → Prop} (hi : D.rs[i]? = some (one prog w a (.list l))) (h : ∀ I, Q (.v (.ref I)) ⟨D.m, D.rs ++ [itRev I a ((l.length : Int) - 1 - ((0 : Nat) : Int))]⟩) : OL prog w C E Rv (fun vs => call (.type "reversed") vs) [.v (.ref a)] D Q := olv1 fun s d => by
      obtain ⟨vs, hl, hr⟩ := d.listAt hi
      have hz' : vs.size = l.length := by have := hr.length; simpa using this
      refine call_reversed_list hl.isList (.intro (d.new (itRev s.heap.objs.size a ((l.length : Int) - 1 - ((0 : Nat) : Int))) (tk := s.toks) (push_keeps _ _) (push_size _ _) ⟨_, Heap.get?_push_size _ rfl, rfl, ?_⟩ (by simp [itRev, objR]) (by simp [itRev, objR])) (.v _) (h _))
      rw [hz']
      show _ = Data.fields #[.ref a, rawInt ((l.length : Int) - 1 - ((0 : Nat) : Int))]
      rw [show (l.length : Int) - 1 - ((0 : Nat) : Int) = (l.length : Int) - 1 from by omega]
      rfl
theorem oi_rev {i : Nat} {I a : Addr} {k : Int} {Q : AV → DS → Prop} (hi : D.rs[i]? = some (itRev I a k)) (h : Q (.v (.ref I)) D) : O1 prog w C E Rv pyIter (.v (.ref I)) D Q := o1v fun s d => by
  obtain ⟨o, ho, hc, hd⟩ := d.regs _ (mem_of_get hi)
  exact wpAny_pyIter_revIter ⟨o, ho, hc, hd⟩ (.here d (.v _) h)
end
end Mine
end
section
open PySem PySem.W
set_option maxRecDepth 100000
namespace Mine
noncomputable def ODD : List Str := ["xyx", "f", "yfy", "fxf"]
noncomputable def NMS : List Str := ["~", "op", ",", "|", "[]", "{}", "+", "-", ";", "mod", "=", "is"]
noncomputable def TYS : List Str := ["xfx", "xfy", "yfx", "fx", "fy", "xf", "yf"]
namespace Tm
/-- its atoms' texts are in L -/
noncomputable def wf (L : List Str) (T : List Str) : Tm → Prop
  | .a n => ∃ x, T[n]? = some x ∧ x ∈ L
  | .s1 f => f ≠ 0
  | .dot x y => x.wf L T ∧ y.wf L T
  | _ => True
theorem wf.mono {L L' T T' : List Str} (hL : ∀ x ∈ L, x ∈ L') (hT : T <+: T') : ∀ {t : Tm}, t.wf L T → t.wf L' T'
  | .a _, ⟨x, h1, h2⟩ => ⟨x, pre_get hT h1, hL x h2⟩
  | .s1 _, h => h
  | .dot _ _, ⟨h1, h2⟩ => ⟨wf.mono hL hT h1, wf.mono hL hT h2⟩
  | .v _, _ => trivial
  | .i _, _ => trivial
theorem wf.ok {L T : List Str} : ∀ {t : Tm}, t.wf L T → t.ok
  | .a _, _ => trivial
  | .s1 _, h => h
  | .dot _ _, ⟨h1, h2⟩ => ⟨wf.ok h1, wf.ok h2⟩
  | .v _, _ => trivial
  | .i _, _ => trivial
/-- a simple term -/
structure Sm (L : List Str) (T : List Str) (t : Tm) : Prop where
  wf : t.wf L T
  dep : t.dep ≤ 3
  len : t.len = 0
theorem Sm.mono {L L' T T' : List Str} (hL : ∀ x ∈ L, x ∈ L') (hT : T <+: T') {t : Tm} (h : t.Sm L T) : t.Sm L' T' := ⟨h.wf.mono hL hT, h.dep, h.len⟩
theorem Sm.fit {L T : List Str} {t : Tm} (h : t.Sm L T) : t.Fit := ⟨h.wf.ok, by rw [h.len]; omega, by have := h.dep; omega⟩
end Tm
theorem odd_all : ∀ x ∈ ODD, x ∈ ALL := by decide +kernel
theorem nms_all : ∀ x ∈ NMS, x ∈ ALL := by decide +kernel
theorem tys_all : ∀ x ∈ TYS, x ∈ ALL := by decide +kernel
theorem pick_mem {xs : List Str} {k : Int} (h0 : 0 ≤ k) (h1 : k < xs.length) : ∃ x, xs[k.toNat]? = some x ∧ x ∈ xs := by
  have h : k.toNat < xs.length := by omega
  exact ⟨xs[k.toNat], List.getElem?_eq_getElem h, List.getElem_mem h⟩
theorem pick_int {xs : List Int} {k : Int} (h0 : 0 ≤ k) (h1 : k < xs.length) : ∃ x, xs[k.toNat]? = some x := ⟨_, List.getElem?_eq_getElem (by omega : k.toNat < xs.length)⟩
set_option genInjectivity false in
set_option genSizeOf false in
structure PA where
  (a b c : Addr)
  figs : List Int
  cs : List Int
  hf : figs.length ≤ 1000
  hc : 2 ≤ cs.length
  hc' : cs.length ≤ 10
noncomputable abbrev genRs (prog : Program) (w : World) (P : PA) (B : BA) (T : List Str) (G : List (Int × Int)) (pos mix : Int) : List Reg :=
  poolRs prog w P.a P.b P.figs pos mix ++ (bookRs prog w B T G ++ [one prog w P.c (.list (nums P.cs))])
noncomputable def GenQ (prog : Program) (w : World) (P : PA) (B : BA) (T : List Str) (G : List (Int × Int)) (Z : List Str → Tm → Prop) (av : AV) (rs' nw : List Reg) : Prop :=
  ∃ (t : Tm) (T' : List Str) (G' : List (Int × Int)) (pos mix : Int), av = .d (Tm.py t) ∧ Z T' t ∧ GB T' G' ∧ T <+: T' ∧ G <+: G' ∧ 0 ≤ pos ∧ pos ≤ P.figs.length ∧ rs' = genRs prog w P B T' G' pos mix ∧ nw = []
theorem GenQ.el {prog : Program} {w : World} {P : PA} {B : BA} {T : List Str} {G : List (Int × Int)} {Z : List Str → Tm → Prop} {X : AV → List Reg → List Reg → Prop}
    (h : ∀ (t : Tm) (T' : List Str) (G' : List (Int × Int)) (pos mix : Int), Z T' t → GB T' G' → T <+: T' → G <+: G' → 0 ≤ pos → pos ≤ P.figs.length → X (.d (Tm.py t)) (genRs prog w P B T' G' pos mix) []) :
    ∀ av rs' nw, GenQ prog w P B T G Z av rs' nw → X av rs' nw := by
  rintro _ _ _ ⟨t, T', G', p, m, rfl, a, b, c, d, e, f, rfl, rfl⟩
  exact h t T' G' p m a b c d e f
section
variable {prog : Program} {w : World}
theorem ol_pick {C : Cx w} {E : Value → Shared → Prop} {D : DS} {P : PA} {pos mix bound : Int} {Q : AV → DS → Prop} {rs : List Reg} (hD : D.rs = poolRs prog w P.a P.b P.figs pos mix ++ rs) (h0 : 0 ≤ pos) (h1 : pos ≤ P.figs.length) (hb : 0 < bound)
    (h : ∀ k pos' mix' : Int, 0 ≤ k → k < bound → 0 ≤ pos' → pos' ≤ P.figs.length → Q (.d (.int k)) ⟨D.m, poolRs prog w P.a P.b P.figs pos' mix' ++ rs⟩) (hn : 1 ≤ C.lv := by exact le_lv (by assumption) rfl) :
    OL prog w C E Rv (fun vs => call (.ref 363) vs) [.v (.ref P.a), .d (.int bound)] D Q := by
  refine ol_fn (fn_pick P.a P.b P.figs pos mix bound P.hf h0 h1 hb) [0, 1] (by rw [hD]; exact .cons (by rfl) (.cons (by rfl) .nil)) ?_ (by decide) hn
  refine PoolQ.el fun k pos' mix' k0 k1 p0 p1 => ?_
  have := h k pos' mix' k0 k1 p0 p1
  show Q _ ⟨D.m, setAll D.rs [0, 1] _ ++ []⟩
  rw [hD, List.append_nil]
  exact this
set_option maxHeartbeats 2000000
theorem fn_lawOdd (P : PA) (B : BA) (T : List Str) (G : List (Int × Int)) (pos mix : Int) (hB : GB T G) (h0 : 0 ≤ pos) (h1 : pos ≤ P.figs.length) :
    Fn prog w (.ref 401) 3 [.v (.ref P.a), .v (.ref B.o), .v (.ref P.c)] (genRs prog w P B T G pos mix) (GenQ prog w P B T G (Tm.Sm ODD)) := by
  refine fn_body ["pool", "book", "cells"] ["kind"] (by rfl) (by rfl) (by kernel_rfl) ?_ (by rfl) (by decide) (by decide) (by decide) ?_ (by rfl) (by rfl) (by rfl)
  · intro vals h
    obtain ⟨a, b, c, rfl⟩ := len3 h
    rfl
  intro C hC ho
  have lT := hB.lenT
  have lG := hB.lenG
  have hcs := P.hc
  have hcs' := P.hc'
  refine ss_cons <| s_assign (i := 3) <| e_fcall 363 <| l_cons <| e_loc (i := 0) (by rfl) <| l_cons <| e_int <| l_nil <| ol_pick (rs := bookRs prog w B T G ++ [one prog w P.c (.list (nums P.cs))]) rfl h0 h1 (by decide) fun kind p1 m1 k0 k1 p10 p11 => ⟨⟨_, by rfl⟩, ?_⟩
  have fin : ∀ (t : Tm) (T' : List Str) (G' : List (Int × Int)) (p m : Int) (mm : Lc) (junk : List Reg), t.Sm ODD T' → GB T' G' → T <+: T' → G <+: G' → 0 ≤ p → p ≤ P.figs.length →
      FnEnd (genRs prog w P B T G pos mix) (GenQ prog w P B T G (Tm.Sm ODD)) (.ret (.d t.py)) ⟨mm, genRs prog w P B T' G' p m ++ junk⟩ := fun t T' G' p m mm junk a b c d e f =>
    ⟨genRs prog w P B T' G' p m, [], junk, by rw [List.append_nil], rfl, t, T', G', p, m, rfl, a, b, c, d, e, f, rfl, rfl⟩
  refine ss_cons <| s_if <| b_cmp <| e_loc (i := 3) (by rfl) <| e_int <| o_eq (by rfl) (by rfl) ⟨_, rfl, fun h2 => ?_, fun h2 => ?_⟩
  · refine ss_cons <| s_ret ?_
    refine e_tuple ?_
    refine l_str ?_
    refine l_cons <| e_fcall 363 <| l_cons <| e_loc (i := 0) (by rfl) <| l_cons <| e_int <| l_nil <| ol_pick (rs := bookRs prog w B T G ++ [one prog w P.c (.list (nums P.cs))]) rfl p10 p11 (by decide) fun k p2 m2 k0 k1 p20 p21 => ?_
    refine l_nil ⟨[.str "v", .int k], rfl, by simp, ?_⟩
    exact fin (.v k) T G p2 m2 _ [] ⟨trivial, by show (1 : Nat) ≤ 3; decide, rfl⟩ hB (List.prefix_refl _) (List.prefix_refl _) p20 p21
  refine ss_nil <| ss_cons <| s_if <| b_cmp <| e_loc (i := 3) (by rfl) <| e_int <| o_eq (by rfl) (by rfl) ⟨_, rfl, fun h3 => ?_, fun h3 => ?_⟩
  · refine ss_cons <| s_ret ?_
    refine e_tuple ?_
    refine l_str ?_
    refine l_cons <| e_sub <| e_loc (i := 2) (by rfl) <| e_fcall 363 <| l_cons <| e_loc (i := 0) (by rfl) <| l_cons <| e_bcall (l_cons <| e_loc (i := 2) (by rfl) <| l_nil <| ol_len (i := 7) (by rfl) (by simp; omega) ?_) kp_builtin
    rw [show (nums P.cs).length = P.cs.length from by simp]
    refine l_nil <| ol_pick (rs := bookRs prog w B T G ++ [one prog w P.c (.list (nums P.cs))]) rfl p10 p11 (by omega) fun k p2 m2 k0 k1 p20 p21 => ?_
    obtain ⟨x, hx⟩ := pick_int k0 k1
    refine i_list (i := 7) (by rfl) k0 (by omega) (x := .d (.int x)) (by simp [hx]) ?_
    refine l_nil ⟨[.str "i", .int x], rfl, by simp, ?_⟩
    exact fin (.i x) T G p2 m2 _ [] ⟨trivial, by show (1 : Nat) ≤ 3; decide, rfl⟩ hB (List.prefix_refl _) (List.prefix_refl _) p20 p21
  refine ss_nil <| ss_cons <| s_if <| b_cmp <| e_loc (i := 3) (by rfl) <| e_int <| o_eq (by rfl) (by rfl) ⟨_, rfl, fun h4 => ?_, fun h4 => ?_⟩
  · refine ss_cons <| s_ret ?_
    refine e_tuple ?_
    refine l_str ?_
    refine l_cons <| e_meth <| e_loc (i := 1) (by rfl) ⟨_, gm_inst 88 (i := 2) (by rfl), kp_K (by kernel_rfl), ?_⟩
    refine l_cons <| e_sub <| e_list <| l_cons <| e_str <| l_cons <| e_str <| l_cons <| e_str <| l_cons <| e_str <| l_nil ⟨by decide, fun q => ?_⟩
    refine e_fcall 363 <| l_cons <| e_loc (i := 0) (by rfl) <| l_cons <| e_int <| l_nil <| ol_pick (rs := bookRs prog w B T G ++ [one prog w P.c (.list (nums P.cs)), one prog w q (.list (ODD.map fun x => .d (.str x)))]) rfl p10 p11 (by decide) fun k p2 m2 k0 k1 p20 p21 => ?_
    obtain ⟨x, hx, hxm⟩ := pick_mem (xs := ODD) k0 k1
    refine i_list (i := 8) (by rfl) k0 (by omega) (x := .d (.str x)) (by simp [hx]) ?_
    refine l_nil <| ol_f (fn_atom B T G x (by omega)) [2, 3, 4, 5, 6] ?_
    refine w_x3 ?_
    refine l_nil ⟨[.str "a", .int (ix (addL T x) x : Nat)], rfl, by simp, ?_⟩
    exact fin (.a (ix (addL T x) x)) (addL T x) G p2 m2 _ [one prog w q (.list (ODD.map fun x => .d (.str x)))] ⟨⟨x, ix_get addL_self, hxm⟩, by show (1 : Nat) ≤ 3; decide, rfl⟩ (hB.addT (odd_all x hxm)) (addL_pre ..) (List.prefix_refl _) p20 p21
  refine ss_nil <| ss_cons <| s_ret ?_
  refine e_tuple ?_
  refine l_str ?_
  refine l_cons <| e_meth <| e_loc (i := 1) (by rfl) ⟨_, gm_inst 109 (i := 2) (by rfl), kp_K (by kernel_rfl), ?_⟩
  refine l_cons <| e_str <| l_cons <| e_int <| l_nil <| ol_f (fn_func B T G "f" 1 (by omega) (by omega)) [2, 3, 4, 5, 6] ?_
  refine w_x3 ?_
  refine l_cons ?_
  refine e_tuple ?_
  refine l_cons ?_
  refine e_tuple ?_
  refine l_str ?_
  refine l_int ?_
  refine l_nil ⟨[.str "v", .int 0], rfl, by simp, ?_⟩
  refine l_nil ⟨[.tuple [.str "v", .int 0]], rfl, by simp, ?_⟩
  generalize hg : (((ix (addL T ("f" : Str)) "f" : Nat) : Int), (1 : Int)) = g
  refine l_nil ⟨[.str "s", .int (ix (addL G g) g : Nat), .tuple [.tuple [.str "v", .int 0]]], rfl, by simp, ?_⟩
  have hB' : GB (addL T "f") (addL G g) := by rw [← hg]; exact hB.func (ALL_mem _ (by simp)) (by decide) (by decide)
  have hne : ix (addL G g) g ≠ 0 := fun e => by
    have h5 := ix_get (T := addL G g) (x := g) addL_self
    rw [e] at h5
    have h6 : (addL G g)[0]? = some (1, 2) := pre_get hB'.preG (by decide +kernel)
    rw [h6, ← hg] at h5
    simp at h5
  exact fin (.s1 (ix (addL G g) g)) (addL T "f") (addL G g) p1 m1 _ [] ⟨hne, by show (3 : Nat) ≤ 3; decide, rfl⟩ hB' (addL_pre ..) (addL_pre ..) p10 p11
end
end Mine
end
section
open PySem PySem.W
set_option maxRecDepth 100000
namespace Mine
noncomputable def NMO : List Str := NMS ++ ODD
noncomputable def TYO : List Str := TYS ++ ODD
theorem nmo_all : ∀ x ∈ NMO, x ∈ ALL := by decide +kernel
theorem tyo_all : ∀ x ∈ TYO, x ∈ ALL := by decide +kernel
theorem odd_nmo : ∀ x ∈ ODD, x ∈ NMO := by decide +kernel
theorem odd_tyo : ∀ x ∈ ODD, x ∈ TYO := by decide +kernel
theorem nms_nmo : ∀ x ∈ NMS, x ∈ NMO := by decide +kernel
theorem tys_tyo : ∀ x ∈ TYS, x ∈ TYO := by decide +kernel
section
variable {prog : Program} {w : World}
set_option maxHeartbeats 2000000
theorem GenQ.mono {P : PA} {B : BA} {T : List Str} {G : List (Int × Int)} {Z Z' : List Str → Tm → Prop} (h : ∀ T t, Z T t → Z' T t) {av : AV} {rs' nw : List Reg} (q : GenQ prog w P B T G Z av rs' nw) : GenQ prog w P B T G Z' av rs' nw := by
  obtain ⟨t, T', G', p, m, a, b, c⟩ := q
  exact ⟨t, T', G', p, m, a, h _ _ b, c⟩
theorem genEnd {P : PA} {B : BA} {T T' : List Str} {G G' : List (Int × Int)} {pos mix p m : Int} {Z : List Str → Tm → Prop} {t : Tm} (junk : List Reg) {mm : Lc} (a : Z T' t) (b : GB T' G') (c : T <+: T') (d : G <+: G') (e : 0 ≤ p) (f : p ≤ P.figs.length) :
    FnEnd (genRs prog w P B T G pos mix) (GenQ prog w P B T G Z) (.ret (.d t.py)) ⟨mm, genRs prog w P B T' G' p m ++ junk⟩ :=
  ⟨genRs prog w P B T' G' p m, [], junk, by rw [List.append_nil], rfl, t, T', G', p, m, rfl, a, b, c, d, e, f, rfl, rfl⟩
theorem fn_lawName (P : PA) (B : BA) (T : List Str) (G : List (Int × Int)) (pos mix : Int) (hB : GB T G) (h0 : 0 ≤ pos) (h1 : pos ≤ P.figs.length) :
    Fn prog w (.ref 408) 4 [.v (.ref P.a), .v (.ref B.o), .v (.ref P.c)] (genRs prog w P B T G pos mix) (GenQ prog w P B T G (Tm.Sm NMO)) := by
  refine fn_body ["pool", "book", "cells"] ["names"] (by rfl) (by rfl) (by kernel_rfl) ?_ (by rfl) (by decide) (by decide) (by decide) ?_ (by rfl) (by rfl) (by rfl)
  · intro vals h
    obtain ⟨a, b, c, rfl⟩ := len3 h
    rfl
  intro C hC ho
  have lT := hB.lenT
  refine ss_cons <| s_if <| b_cmp <| e_fcall 363 <| l_cons <| e_loc (i := 0) (by rfl) <| l_cons <| e_int <| l_nil <| ol_pick (rs := bookRs prog w B T G ++ [one prog w P.c (.list (nums P.cs))]) rfl h0 h1 (by decide) fun kind p1 m1 k0 k1 p10 p11 => ?_
  refine e_int <| o_eq (by rfl) (by rfl) ⟨_, rfl, fun h2 => ?_, fun h2 => ?_⟩
  · refine ss_cons <| s_ret <| e_fcall 401 <| l_cons <| e_loc (i := 0) (by rfl) <| l_cons <| e_loc (i := 1) (by rfl) <| l_cons <| e_loc (i := 2) (by rfl) <| l_nil <| ol_f (fn_lawOdd P B T G p1 m1 hB p10 p11) [0, 1, 2, 3, 4, 5, 6, 7] ?_
    refine GenQ.el fun t T' G' p m a b c d e f => ?_
    exact genEnd [] (a.mono odd_nmo (List.prefix_refl _)) b c d e f
  refine ss_nil ?_
  refine ss_cons ?_
  refine s_assign (i := 3) ?_
  refine e_list ?_
  iterate 12 (refine l_str ?_)
  refine l_nil ⟨by simp, fun q => ⟨⟨_, by rfl⟩, ?_⟩⟩
  refine ss_cons <| s_ret ?_
  refine e_tuple ?_
  refine l_str ?_
  refine l_cons <| e_meth <| e_loc (i := 1) (by rfl) ⟨_, gm_inst 88 (i := 2) (by rfl), kp_K (by kernel_rfl), ?_⟩
  refine l_cons <| e_sub <| e_loc (i := 3) (by rfl) ?_
  refine e_fcall 363 <| l_cons <| e_loc (i := 0) (by rfl) <| l_cons <| e_int <| l_nil <| ol_pick (rs := bookRs prog w B T G ++ [one prog w P.c (.list (nums P.cs)), one prog w q (.list (NMS.map fun x => .d (.str x)))]) rfl p10 p11 (by decide) fun k p2 m2 k0 k1 p20 p21 => ?_
  obtain ⟨x, hx, hxm⟩ := pick_mem (xs := NMS) k0 k1
  refine i_list (i := 8) (by rfl) k0 (by omega) (x := .d (.str x)) (by simp [hx]) ?_
  refine l_nil <| ol_f (fn_atom B T G x (by omega)) [2, 3, 4, 5, 6] ?_
  refine w_x3 ?_
  refine l_nil ⟨[.str "a", .int (ix (addL T x) x : Nat)], rfl, by simp, ?_⟩
  exact genEnd (t := .a (ix (addL T x) x)) [one prog w q (.list (NMS.map fun x => .d (.str x)))] ⟨⟨x, ix_get addL_self, nms_nmo x hxm⟩, by show (1 : Nat) ≤ 3; decide, rfl⟩ (hB.addT (nms_all x hxm)) (addL_pre ..) (List.prefix_refl _) p20 p21
theorem fn_lawType (P : PA) (B : BA) (T : List Str) (G : List (Int × Int)) (pos mix : Int) (hB : GB T G) (h0 : 0 ≤ pos) (h1 : pos ≤ P.figs.length) :
    Fn prog w (.ref 422) 4 [.v (.ref P.a), .v (.ref B.o), .v (.ref P.c)] (genRs prog w P B T G pos mix) (GenQ prog w P B T G (Tm.Sm TYO)) := by
  refine fn_body ["pool", "book", "cells"] ["way"] (by rfl) (by rfl) (by kernel_rfl) ?_ (by rfl) (by decide) (by decide) (by decide) ?_ (by rfl) (by rfl) (by rfl)
  · intro vals h
    obtain ⟨a, b, c, rfl⟩ := len3 h
    rfl
  intro C hC ho
  have lT := hB.lenT
  refine ss_cons <| s_assign (i := 3) <| e_fcall 363 <| l_cons <| e_loc (i := 0) (by rfl) <| l_cons <| e_int <| l_nil <| ol_pick (rs := bookRs prog w B T G ++ [one prog w P.c (.list (nums P.cs))]) rfl h0 h1 (by decide) fun kind p1 m1 k0 k1 p10 p11 => ⟨⟨_, by rfl⟩, ?_⟩
  refine ss_cons <| s_if <| b_cmp <| e_loc (i := 3) (by rfl) <| e_int <| o_gt ⟨_, rfl, fun h2 => ?_, fun h2 => ?_⟩
  · refine ss_cons <| s_ret <| e_fcall 401 <| l_cons <| e_loc (i := 0) (by rfl) <| l_cons <| e_loc (i := 1) (by rfl) <| l_cons <| e_loc (i := 2) (by rfl) <| l_nil <| ol_f (fn_lawOdd P B T G p1 m1 hB p10 p11) [0, 1, 2, 3, 4, 5, 6, 7] ?_
    refine GenQ.el fun t T' G' p m a b c d e f => ?_
    exact genEnd [] (a.mono odd_tyo (List.prefix_refl _)) b c d e f
  have k2 : ¬ 6 < kind := of_decide_eq_false h2
  refine ss_nil ?_
  refine ss_cons ?_
  refine s_ret ?_
  refine e_tuple ?_
  refine l_str ?_
  refine l_cons <| e_meth <| e_loc (i := 1) (by rfl) ⟨_, gm_inst 88 (i := 2) (by rfl), kp_K (by kernel_rfl), ?_⟩
  refine l_cons ?_
  refine e_sub ?_
  refine e_list ?_
  iterate 7 (refine l_str ?_)
  refine l_nil ⟨by simp, fun q => ?_⟩
  obtain ⟨x, hx, hxm⟩ := pick_mem (xs := TYS) k0 (by show kind < 7; omega)
  refine e_loc (i := 3) (by rfl) <| i_list (i := 8) (by rfl) k0 (by omega) (l := TYS.map fun x => .d (.str x)) (x := .d (.str x)) (by simp [hx]) ?_
  refine l_nil <| ol_f (fn_atom B T G x (by omega)) [2, 3, 4, 5, 6] ?_
  refine w_x3 ?_
  refine l_nil ⟨[.str "a", .int (ix (addL T x) x : Nat)], rfl, by simp, ?_⟩
  exact genEnd (t := .a (ix (addL T x) x)) [one prog w q (.list (TYS.map fun x => .d (.str x)))] ⟨⟨x, ix_get addL_self, tys_tyo x hxm⟩, by show (1 : Nat) ≤ 3; decide, rfl⟩ (hB.addT (tys_all x hxm)) (addL_pre ..) (List.prefix_refl _) p10 p11
theorem fn_lawPriority (P : PA) (B : BA) (T : List Str) (G : List (Int × Int)) (pos mix : Int) (hB : GB T G) (h0 : 0 ≤ pos) (h1 : pos ≤ P.figs.length) :
    Fn prog w (.ref 415) 4 [.v (.ref P.a), .v (.ref B.o), .v (.ref P.c)] (genRs prog w P B T G pos mix) (GenQ prog w P B T G (Tm.Sm ODD)) := by
  refine fn_body ["pool", "book", "cells"] ["way"] (by rfl) (by rfl) (by kernel_rfl) ?_ (by rfl) (by decide) (by decide) (by decide) ?_ (by rfl) (by rfl) (by rfl)
  · intro vals h
    obtain ⟨a, b, c, rfl⟩ := len3 h
    rfl
  intro C hC ho
  have lT := hB.lenT
  have hcs := P.hc
  have hcs' := P.hc'
  refine ss_cons <| s_assign (i := 3) <| e_fcall 363 <| l_cons <| e_loc (i := 0) (by rfl) <| l_cons <| e_int <| l_nil <| ol_pick (rs := bookRs prog w B T G ++ [one prog w P.c (.list (nums P.cs))]) rfl h0 h1 (by decide) fun kind p1 m1 k0 k1 p10 p11 => ⟨⟨_, by rfl⟩, ?_⟩
  refine ss_cons <| s_if <| b_cmp <| e_loc (i := 3) (by rfl) <| e_int <| o_eq (by rfl) (by rfl) ⟨_, rfl, fun h2 => ?_, fun h2 => ?_⟩
  · refine ss_cons <| s_ret <| e_fcall 401 <| l_cons <| e_loc (i := 0) (by rfl) <| l_cons <| e_loc (i := 1) (by rfl) <| l_cons <| e_loc (i := 2) (by rfl) <| l_nil <| ol_f (fn_lawOdd P B T G p1 m1 hB p10 p11) [0, 1, 2, 3, 4, 5, 6, 7] ?_
    refine GenQ.el fun t T' G' p m a b c d e f => ?_
    exact genEnd [] a b c d e f
  refine ss_nil <| ss_cons <| s_if <| b_cmp <| e_loc (i := 3) (by rfl) <| e_int <| o_eq (by rfl) (by rfl) ⟨_, rfl, fun h3 => ?_, fun h3 => ?_⟩
  · refine ss_cons <| s_ret ?_
    refine e_tuple ?_
    refine l_str ?_
    refine l_cons ?_
    refine e_sub ?_
    refine e_list ?_
    refine l_int ?_
    refine l_cons <| e_un <| e_int <| o_neg <| l_nil ⟨by simp, fun q => ?_⟩
    refine e_fcall 363 <| l_cons <| e_loc (i := 0) (by rfl) <| l_cons <| e_int <| l_nil <| ol_pick (rs := bookRs prog w B T G ++ [one prog w P.c (.list (nums P.cs)), one prog w q (.list (nums [1201, -1]))]) rfl p10 p11 (by decide) fun k p2 m2 k0 k1 p20 p21 => ?_
    obtain ⟨x, hx⟩ := pick_int (xs := [1201, -1]) k0 k1
    refine i_list (i := 8) (by rfl) k0 (by omega) (x := .d (.int x)) (by simp only [List.getElem?_map, hx]; rfl) ?_
    refine l_nil ⟨[.str "i", .int x], rfl, by simp, ?_⟩
    exact genEnd (t := .i x) [one prog w q (.list (nums [1201, -1]))] ⟨trivial, by show (1 : Nat) ≤ 3; decide, rfl⟩ hB (List.prefix_refl _) (List.prefix_refl _) p20 p21
  refine ss_nil <| ss_cons <| s_if <| b_cmp <| e_loc (i := 3) (by rfl) <| e_int <| o_eq (by rfl) (by rfl) ⟨_, rfl, fun h3 => ?_, fun h3 => ?_⟩
  · refine ss_cons <| s_ret ?_
    refine e_tuple ?_
    refine l_str ?_
    refine l_cons <| e_bin <| e_sub <| e_loc (i := 2) (by rfl) <| e_fcall 363 <| l_cons <| e_loc (i := 0) (by rfl) <| l_cons <| e_bcall (l_cons <| e_loc (i := 2) (by rfl) <| l_nil <| ol_len (i := 7) (by rfl) (by simp; omega) ?_) kp_builtin
    rw [show (nums P.cs).length = P.cs.length from by simp]
    refine l_nil <| ol_pick (rs := bookRs prog w B T G ++ [one prog w P.c (.list (nums P.cs))]) rfl p10 p11 (by omega) fun k p2 m2 k0 k1 p20 p21 => ?_
    obtain ⟨x, hx⟩ := pick_int k0 k1
    refine i_list (i := 7) (by rfl) k0 (by omega) (x := .d (.int x)) (by simp [hx]) ?_
    refine e_int <| o_mod (by decide) ?_
    refine l_nil ⟨[.str "i", .int (x.fmod 1301)], rfl, by simp, ?_⟩
    exact genEnd (t := .i (x.fmod 1301)) [] ⟨trivial, by show (1 : Nat) ≤ 3; decide, rfl⟩ hB (List.prefix_refl _) (List.prefix_refl _) p20 p21
  refine ss_nil ?_
  refine ss_cons ?_
  refine s_ret ?_
  refine e_tuple ?_
  refine l_str ?_
  refine l_cons ?_
  refine e_sub ?_
  refine e_list ?_
  iterate 9 (refine l_int ?_)
  refine l_nil ⟨by simp, fun q => ?_⟩
  refine e_fcall 363 <| l_cons <| e_loc (i := 0) (by rfl) <| l_cons <| e_int <| l_nil <| ol_pick (rs := bookRs prog w B T G ++ [one prog w P.c (.list (nums P.cs)), one prog w q (.list (nums [200, 700, 1200, 0, 1000, 1001, 1, 1100, 999]))]) rfl p10 p11 (by decide) fun k p2 m2 k0 k1 p20 p21 => ?_
  obtain ⟨x, hx⟩ := pick_int (xs := [200, 700, 1200, 0, 1000, 1001, 1, 1100, 999]) k0 k1
  refine i_list (i := 8) (by rfl) k0 (by omega) (x := .d (.int x)) (by simp only [List.getElem?_map, hx]; rfl) ?_
  refine l_nil ⟨[.str "i", .int x], rfl, by simp, ?_⟩
  exact genEnd (t := .i x) [one prog w q (.list (nums [200, 700, 1200, 0, 1000, 1001, 1, 1100, 999]))] ⟨trivial, by show (1 : Nat) ≤ 3; decide, rfl⟩ hB (List.prefix_refl _) (List.prefix_refl _) p20 p21
end
end Mine
end
section
open PySem PySem.W
set_option maxRecDepth 100000
namespace Mine
/-- a term of names -/
structure Nm (T : List Str) (t : Tm) : Prop where
  wf : t.wf NMO T
  dep : t.dep ≤ 9
  len : t.len ≤ 3
theorem Nm.mono {T T' : List Str} {t : Tm} (h : Nm T t) (p : T <+: T') : Nm T' t := ⟨h.wf.mono (fun _ h => h) p, h.dep, h.len⟩
theorem Nm.fit {T : List Str} {t : Tm} (h : Nm T t) : t.Fit := ⟨h.wf.ok, by have := h.len; omega, by have := h.dep; omega⟩
theorem Tm.Sm.nm {L T : List Str} {t : Tm} (h : t.Sm L T) (hL : ∀ x ∈ L, x ∈ NMO) : Nm T t := ⟨h.wf.mono hL (List.prefix_refl _), by have := h.dep; omega, by rw [h.len]; omega⟩
section
variable {prog : Program} {w : World}
set_option maxHeartbeats 2000000
theorem fn_lawNames (P : PA) (B : BA) (T : List Str) (G : List (Int × Int)) (pos mix : Int) (hB : GB T G) (h0 : 0 ≤ pos) (h1 : pos ≤ P.figs.length) :
    Fn prog w (.ref 429) 5 [.v (.ref P.a), .v (.ref B.o), .v (.ref P.c)] (genRs prog w P B T G pos mix) (GenQ prog w P B T G Nm) := by
  refine fn_body ["pool", "book", "cells"] ["way", "items", "step", "whole", "item"] (by rfl) (by rfl) (by kernel_rfl) ?_ (by rfl) (by decide) (by decide) (by decide) ?_ (by rfl) (by rfl) (by rfl)
  · intro vals h
    obtain ⟨a, b, c, rfl⟩ := len3 h
    rfl
  intro C hC ho
  let L : Option AV → Option AV → Option AV → Lc := fun wy it wh => [("pool", some (.v (.ref P.a))), ("book", some (.v (.ref B.o))), ("cells", some (.v (.ref P.c))), ("way", wy), ("items", it), ("step", none), ("whole", wh), ("item", none)]
  refine ss_cons <| s_assign (i := 3) <| e_fcall 363 <| l_cons <| e_loc (i := 0) (by rfl) <| l_cons <| e_int <| l_nil <| ol_pick (rs := bookRs prog w B T G ++ [one prog w P.c (.list (nums P.cs))]) rfl h0 h1 (by decide) fun way p1 m1 k0 k1 p10 p11 => ⟨⟨_, by rfl⟩, ?_⟩
  refine GV.less (D' := ⟨L (some (.d (.int way))) none none, genRs prog w P B T G p1 m1⟩) (fun s d => d) ?_
  refine ss_cons <| s_if <| b_cmp <| e_loc (i := 3) (by rfl) <| e_int <| o_lt ⟨_, rfl, fun h2 => ?_, fun h2 => ?_⟩
  · refine ss_cons <| s_ret <| e_fcall 408 <| l_cons <| e_loc (i := 0) (by rfl) <| l_cons <| e_loc (i := 1) (by rfl) <| l_cons <| e_loc (i := 2) (by rfl) <| l_nil <| ol_f (fn_lawName P B T G p1 m1 hB p10 p11) [0, 1, 2, 3, 4, 5, 6, 7] ?_
    refine GenQ.el fun t T' G' p m a b c d e f => ?_
    exact genEnd [] (a.nm fun _ h => h) b c d e f
  refine ss_nil ?_
  refine ss_cut (fun D₁ => ∃ p2 m2, 0 ≤ p2 ∧ p2 ≤ (P.figs.length : Int) ∧ D₁ = ⟨L (some (.d (.int way))) none none, genRs prog w P B T G p2 m2⟩) ?_ ?_
  · refine s_if <| b_bool <| b_and <| b_cmp <| e_loc (i := 3) (by rfl) <| e_int <| o_eq (by rfl) (by rfl) ⟨_, rfl, fun h3 => ?_, fun h3 => ⟨fun e => absurd e Bool.false_ne_true, fun _ => ss_nil ⟨_, fun _ d => d, p1, m1, p10, p11, rfl⟩⟩⟩
    refine b_and <| b_cmp <| e_fcall 363 <| l_cons <| e_loc (i := 0) (by rfl) <| l_cons <| e_int <| l_nil <| ol_pick (rs := bookRs prog w B T G ++ [one prog w P.c (.list (nums P.cs))]) rfl p10 p11 (by decide) fun k p2 m2 k0 k1 p20 p21 => ?_
    refine e_int <| o_eq (by rfl) (by rfl) ⟨_, rfl, fun h4 => b_and_nil ⟨fun _ => ?_, fun e => absurd e.symm Bool.false_ne_true⟩, fun h4 => ⟨fun e => absurd e Bool.false_ne_true, fun _ => ss_nil ⟨_, fun _ d => d, p2, m2, p20, p21, rfl⟩⟩⟩
    refine ss_cons <| s_ret <| e_fcall 401 <| l_cons <| e_loc (i := 0) (by rfl) <| l_cons <| e_loc (i := 1) (by rfl) <| l_cons <| e_loc (i := 2) (by rfl) <| l_nil <| ol_f (fn_lawOdd P B T G p2 m2 hB p20 p21) [0, 1, 2, 3, 4, 5, 6, 7] ?_
    refine GenQ.el fun t T' G' p m a b c d e f => ?_
    exact genEnd [] (a.nm odd_nmo) b c d e f
  rintro _ ⟨p2, m2, p20, p21, rfl⟩
  refine ss_cons <| s_assign (i := 4) <| e_list <| l_nil ⟨by decide, fun a => ⟨⟨_, by rfl⟩, ?_⟩⟩
  let V : List Str → List (Int × Int) → Int → Int → List Tm → Option AV → DS := fun T' G' p m l wh => ⟨L (some (.d (.int way))) (some (.v (.ref a))) wh, genRs prog w P B T' G' p m ++ [one prog w a (.list (tmsA l))]⟩
  let J : List Str → List (Int × Int) → Int → List Tm → Prop := fun T' G' p l => (∀ u ∈ l, u.Sm NMO T') ∧ GB T' G' ∧ T <+: T' ∧ G <+: G' ∧ 0 ≤ p ∧ p ≤ P.figs.length
  refine ss_cut (fun D₁ => ∃ T' G' p m l, l.length ≤ 3 ∧ J T' G' p l ∧ D₁ = V T' G' p m l none) ?_ ?_
  · refine s_for <| e_bcall (l_cons <| e_bin <| e_int <| e_fcall 363 <| l_cons <| e_loc (i := 0) (by rfl) <| l_cons <| e_int <| l_nil <| ol_pick (rs := bookRs prog w B T G ++ [one prog w P.c (.list (nums P.cs)), one prog w a (.list [])]) rfl p20 p21 (by decide) fun k p3 m3 k0 k1 p30 p31 => ?_) kp_type
    refine o_add ?_
    obtain ⟨n, hn, hn3⟩ : ∃ n : Nat, (1 : Int) + k = n ∧ n ≤ 3 := ⟨(1 + k).toNat, by omega, by omega⟩
    rw [hn]
    refine l_nil <| ol_range fun r => ?_
    refine oi_rng (i := 9) (by rfl) (by omega) fun I => ⟨srcRng prog C I n, rfl, fun j D' => ∃ T' G' p m l, l.length = j ∧ J T' G' p l ∧ D' = V T' G' p m l none, fun _ _ _ _ h => (nomatch h), ⟨V T G p3 m3 [] none, to_oS, T, G, p3, m3, [], rfl, ⟨fun _ h => (nomatch h), hB, List.prefix_refl _, List.prefix_refl _, p30, p31⟩, rfl⟩, ?_, ?_⟩
    rotate_left
    · rintro _ ⟨T', G', p, m, l, hl, hJ, rfl⟩
      exact ⟨_, fun _ d => d, T', G', p, m, l, by rw [hl]; simp [srcRng]; exact hn3, hJ, rfl⟩
    rintro j x _ hx ⟨T', G', p, m, l, hl, ⟨j1, j2, j3, j4, j5, j6⟩, rfl⟩
    have hj : j < n := by simpa [srcRng] using (List.getElem?_eq_some_iff.mp hx).1
    refine as_name (i := 5) (by rfl) ?_
    refine ss_cons <| s_expr <| e_meth <| e_loc (i := 4) (by rfl) ⟨_, gm_append (i := 8) (by rfl), kp_builtin, ?_⟩
    refine l_cons <| e_fcall 408 <| l_cons <| e_loc (i := 0) (by rfl) <| l_cons <| e_loc (i := 1) (by rfl) <| l_cons <| e_loc (i := 2) (by rfl) <| l_nil <| ol_f (fn_lawName P B T' G' p m j2 j5 j6) [0, 1, 2, 3, 4, 5, 6, 7] ?_
    refine GenQ.el fun t T₂ G₂ q m' a1 b1 c1 d1 e1 f1 => ?_
    refine l_nil <| ol_append (i := 8) (by rfl) (by simp; omega) ?_
    refine ss_nil ⟨V T₂ G₂ q m' (l ++ [t]) none, ?_, T₂, G₂, q, m', l ++ [t], by simp [hl], ⟨?_, b1, j3.trans c1, j4.trans d1, e1, f1⟩, rfl⟩
    · rw [show V T₂ G₂ q m' (l ++ [t]) none = ⟨L (some (.d (.int way))) (some (.v (.ref a))) none, genRs prog w P B T₂ G₂ q m' ++ [one prog w a (.list (tmsA l ++ [.d t.py]))]⟩ from by simp [V, tmsA]]
      exact to_of
    · intro u hu
      rcases List.mem_append.mp hu with hu | hu
      · exact (j1 u hu).mono (fun _ h => h) c1
      · rw [List.mem_singleton.mp hu]; exact a1
  rintro _ ⟨T', G', p, m, l, hl, ⟨j1, j2, j3, j4, j5, j6⟩, rfl⟩
  refine ss_cons ?_
  refine s_assign (i := 6) ?_
  refine e_tuple ?_
  refine l_str ?_
  refine l_cons <| e_glob (a := .d (.int 0)) (by rfl) globInt <| l_nil ⟨[.str "a", .int 0], rfl, by simp, ⟨_, by rfl⟩, ?_⟩
  have nilw : (Tm.a 0).Sm NMO T' := ⟨⟨"[]", pre_get j2.pre (by rfl), by decide +kernel⟩, by show (1 : Nat) ≤ 3; decide, rfl⟩
  refine ss_cut (fun D₁ => ∃ (T₂ : List Str) (G₂ : List (Int × Int)) (p' m' : Int) (t : Tm), t.Sm NMO T₂ ∧ J T₂ G₂ p' l ∧ D₁ = V T₂ G₂ p' m' l (some (.d t.py))) ?_ ?_
  · refine s_if <| b_cmp <| e_loc (i := 3) (by rfl) <| e_int <| o_eq (by rfl) (by rfl) ⟨_, rfl, fun h3 => ?_, fun h3 => ss_nil ⟨V T' G' p m l (some (.d (Tm.a 0).py)), to_of, T', G', p, m, .a 0, nilw, ⟨j1, j2, j3, j4, j5, j6⟩, rfl⟩⟩
    refine ss_cons <| s_assign (i := 6) <| e_fcall 401 <| l_cons <| e_loc (i := 0) (by rfl) <| l_cons <| e_loc (i := 1) (by rfl) <| l_cons <| e_loc (i := 2) (by rfl) <| l_nil <| ol_f (fn_lawOdd P B T' G' p m j2 j5 j6) [0, 1, 2, 3, 4, 5, 6, 7] ?_
    refine GenQ.el fun t T₂ G₂ q m' a1 b1 c1 d1 e1 f1 => ?_
    exact ⟨⟨_, by rfl⟩, ss_nil ⟨V T₂ G₂ q m' l (some (.d t.py)), to_of, T₂, G₂, q, m', t, a1.mono odd_nmo (List.prefix_refl _), ⟨fun u hu => (j1 u hu).mono (fun _ h => h) c1, b1, j3.trans c1, j4.trans d1, e1, f1⟩, rfl⟩⟩
  clear nilw j1 j2 j3 j4 j5 j6 T' G' p m
  rintro _ ⟨T', G', p, m, t, ht, ⟨j1, j2, j3, j4, j5, j6⟩, rfl⟩
  refine ss_cut (fun D₁ => ∃ t : Tm, Nm T' t ∧ D₁ = V T' G' p m l (some (.d t.py))) ?_ ?_
  rotate_left
  · rintro _ ⟨t, ht, rfl⟩
    refine ss_cons <| s_ret <| e_loc (i := 6) (by rfl) ?_
    exact genEnd [one prog w a (.list (tmsA l))] ht j2 j3 j4 j5 j6
  refine s_for <| e_bcall (l_cons <| e_loc (i := 4) (by rfl) <| l_nil <| ol_reversed (i := 8) (by rfl) fun I => ?_) kp_type
  refine oi_rev (i := 9) (by rfl) ⟨srcRev prog C I a (tmsA l), rfl, fun j D' => ∃ t : Tm, t.wf NMO T' ∧ t.dep ≤ 3 + 2 * j ∧ t.len ≤ j ∧ D' = V T' G' p m l (some (.d t.py)), ?_, ⟨V T' G' p m l (some (.d t.py)), to_of, t, ht.wf, by have := ht.dep; omega, by rw [ht.len]; omega, rfl⟩, ?_, ?_⟩
  · rintro k _ ⟨u, _, _, _, rfl⟩ r hr
    rw [List.mem_singleton.mp hr]
    simp [V]
  rotate_left
  · rintro _ ⟨u, u1, u2, u3, rfl⟩
    have e : (srcRev prog C I a (tmsA l)).l.length = l.length := by simp [srcRev]
    rw [e] at u2 u3
    exact ⟨_, fun _ d => d, u, ⟨u1, by omega, by omega⟩, rfl⟩
  rintro j x _ hx ⟨u, u1, u2, u3, rfl⟩
  obtain ⟨v, hv, rfl⟩ : ∃ v, v ∈ l ∧ x = .d v.py := by
    have := List.mem_of_getElem? hx
    simp only [srcRev, List.mem_reverse, List.mem_map] at this
    obtain ⟨v, h1, h2⟩ := this
    exact ⟨v, h1, h2.symm⟩
  have hvS := j1 v hv
  refine as_name (i := 7) (by rfl) ?_
  refine ss_cons ?_
  refine s_assign (i := 6) ?_
  refine e_tuple ?_
  refine l_str ?_
  refine l_cons <| e_glob (a := .d (.int 0)) (by rfl) globInt ?_
  refine l_cons ?_
  refine e_tuple ?_
  refine l_cons <| e_loc (i := 7) (by rfl) <| l_cons <| e_loc (i := 6) (by rfl) ?_
  refine l_nil ⟨[v.py, u.py], rfl, by simp, ?_⟩
  refine l_nil ⟨[.str "s", .int 0, .tuple [v.py, u.py]], rfl, by simp, ⟨_, by rfl⟩, ?_⟩
  refine ss_nil ⟨V T' G' p m l (some (.d (Tm.dot v u).py)), to_of, .dot v u, ⟨hvS.wf, u1⟩, ?_, ?_, rfl⟩
  · have := hvS.dep; show max v.dep u.dep + 2 ≤ _; omega
  · show u.len + 1 ≤ j + 1; omega
end
end Mine
end
section
open PySem PySem.W PyProof.Rows
set_option maxRecDepth 100000
namespace Mine
noncomputable abbrev Row := Int × Str × Int
noncomputable abbrev rowP (r : Row) : PyData := .tuple [.int r.1, .str r.2.1, .int r.2.2]
noncomputable abbrev rowsA (l : List Row) : List AV := l.map fun r => .d (rowP r)
noncomputable abbrev RK3 := Int × List Nat × Int
noncomputable def rk (r : Row) : RK3 := (r.1, r.2.1.cps.toList, r.2.2)
theorem rk_inj {x y : Row} (h : rk x = rk y) : x = y := by
  obtain ⟨a, ⟨b⟩, c⟩ := x
  obtain ⟨a', ⟨b'⟩, c'⟩ := y
  simp [rk] at h
  obtain ⟨h1, h2, h3⟩ := h
  subst h1; subst h3
  have : b = b' := by simpa using h2
  subst this; rfl
noncomputable abbrev lt3 (x y : RK3) : Prop := x.1 < y.1 ∨ (x.1 = y.1 ∧ (x.2.1 < y.2.1 ∨ (x.2.1 = y.2.1 ∧ x.2.2 < y.2.2)))
theorem lt3_trans {a b c : RK3} (h1 : lt3 a b) (h2 : lt3 b c) : lt3 a c := by
  unfold lt3 at *
  rcases h1 with h1 | ⟨e1, h1⟩ <;> rcases h2 with h2 | ⟨e2, h2⟩
  · exact .inl (by omega)
  · exact .inl (by omega)
  · exact .inl (by omega)
  · refine .inr ⟨by omega, ?_⟩
    rcases h1 with h1 | ⟨f1, h1⟩ <;> rcases h2 with h2 | ⟨f2, h2⟩
    · exact .inl (List.lt_trans h1 h2)
    · exact .inl (f2 ▸ h1)
    · exact .inl (f1 ▸ h2)
    · exact .inr ⟨f1.trans f2, by omega⟩
theorem lt3_tri (a b : RK3) : lt3 a b ∨ a = b ∨ lt3 b a := by
  unfold lt3
  obtain ⟨a1, a2, a3⟩ := a
  obtain ⟨b1, b2, b3⟩ := b
  simp only
  rcases Int.lt_trichotomy a1 b1 with h | h | h
  · exact .inl (.inl h)
  · subst h
    by_cases h2 : a2 < b2
    · exact .inl (.inr ⟨rfl, .inl h2⟩)
    · by_cases h3 : b2 < a2
      · exact .inr (.inr (.inr ⟨rfl, .inl h3⟩))
      · have : a2 = b2 := List.le_antisymm (List.not_lt.mp h3) (List.not_lt.mp h2)
        subst this
        rcases Int.lt_trichotomy a3 b3 with h | h | h
        · exact .inl (.inr ⟨rfl, .inr ⟨rfl, h⟩⟩)
        · subst h; exact .inr (.inl rfl)
        · exact .inr (.inr (.inr ⟨rfl, .inr ⟨rfl, h⟩⟩))
  · exact .inr (.inr (.inl h))
theorem lt3_irrefl (a : RK3) : ¬ lt3 a a := by
  unfold lt3
  rintro (h | ⟨_, h | ⟨_, h⟩⟩)
  · omega
  · exact List.lt_irrefl _ h
  · omega
noncomputable abbrev rowOrd : KeyOrd where
  α := RK3
  blt a b := decide (lt3 a b)
  irrefl a := by simpa using lt3_irrefl a
  trans a b c h1 h2 := by simp only [decide_eq_true_eq] at *; exact lt3_trans h1 h2
  negTrans a b c h := by
    simp only [decide_eq_true_eq] at *
    rcases lt3_tri a b with h1 | h1 | h1
    · exact .inl h1
    · exact .inr (h1 ▸ h)
    · exact .inr (lt3_trans h1 h)
  total a b h1 h2 := by
    simp only [decide_eq_false_iff_not] at *
    rcases lt3_tri a b with h | h | h
    · exact absurd h h1
    · exact h
    · exact absurd h h2
/-- sorted -/
noncomputable def Sorted3 (l : List Row) : Prop := l.Pairwise fun x y => ¬ lt3 (rk y) (rk x)
theorem sorted3_unique : ∀ {l m : List Row}, Sorted3 l → Sorted3 m → l.Perm m → l = m
  | [], m, _, _, p => (List.nil_perm.mp p).symm
  | x :: l, [], _, _, p => absurd p.symm (by simp)
  | x :: l, y :: m, hl, hm, p => by
    have hl' := List.pairwise_cons.mp hl
    have hm' := List.pairwise_cons.mp hm
    have e : x = y := by
      have h1 : x ∈ y :: m := p.subset (.head _)
      have h2 : y ∈ x :: l := p.symm.subset (.head _)
      rcases List.mem_cons.mp h1 with e | h1
      · exact e
      · rcases List.mem_cons.mp h2 with e | h2
        · exact e.symm
        · have a := hl'.1 y h2
          have b := hm'.1 x h1
          rcases lt3_tri (rk x) (rk y) with h | h | h
          · exact absurd h b
          · exact rk_inj h
          · exact absurd h a
    subst e
    rw [sorted3_unique hl'.2 hm'.2 ((List.perm_cons x).mp p)]
section
variable {prog : Program} {w : World} {A : Around} {E : Value → Shared → Prop} {s : Shared}
theorem row_at {h : Heap} {v : Value} {r : Row} (x : Rv h v (.d (rowP r))) : ∃ a o items n t1 t2 t3, v = .ref a ∧ h.get? a = some o ∧ o.cls = .type "tuple" ∧ o.data = .seq items n ∧ items.toList = [.int r.1 t1, .str r.2.1 t2, .int r.2.2 t3] := by
  obtain ⟨a, o, vs, n, e, ho, hc, hd, hr⟩ := x.tupD
  have q := RvL.of_reads hr rfl
  obtain ⟨u1, l1, e1⟩ := q.some
  rw [e1] at q
  obtain ⟨u2, l2, e2⟩ := q.tl.some
  rw [e2] at q
  obtain ⟨u3, l3, e3⟩ := q.tl.tl.some
  rw [e3] at q
  obtain ⟨t1, h1⟩ := q.hd.int_
  obtain ⟨t2, h2⟩ := q.tl.hd.str_
  obtain ⟨t3, h3⟩ := q.tl.tl.hd.int_
  exact ⟨a, o, vs, n, t1, t2, t3, e, ho, hc, hd, by rw [e1, e2, e3, q.tl.tl.tl.none, h1, h2, h3]⟩
theorem toArr {items : Array Value} {l : List Value} (h : items.toList = l) : items = l.toArray := by rw [← h]
/-- two rows are compared -/
theorem lt_rows {vs : List Value} {rows : List Row} (hr : RvL s.heap vs (rowsA rows)) {i j : Nat} {C : Bool → Shared → Prop} (hi : i < rows.length) (hj : j < rows.length) (h : C (decide (lt3 (rk (rows.getD i (0, "", 0))) (rk (rows.getD j (0, "", 0))))) s) :
    kas_ask prog w A (tuples' true) vs i j C s := by
  obtain ⟨x, hx⟩ : ∃ x, rows[i]? = some x := ⟨_, List.getElem?_eq_getElem hi⟩
  obtain ⟨y, hy⟩ : ∃ y, rows[j]? = some y := ⟨_, List.getElem?_eq_getElem hj⟩
  have gx : rows.getD i (0, "", 0) = x := by simp [hx]
  have gy : rows.getD j (0, "", 0) = y := by simp [hy]
  rw [gx, gy] at h
  obtain ⟨u, hu, ru⟩ := hr.get (i := i) (a := .d (rowP x)) (by simp [hx])
  obtain ⟨v, hv, rv⟩ := hr.get (i := j) (a := .d (rowP y)) (by simp [hy])
  have gu : vs.getD i Value.none = u := by simp [hu]
  have gv : vs.getD j Value.none = v := by simp [hv]
  obtain ⟨a, o, items, n, t1, t2, t3, rfl, ho, hc, hd, e⟩ := row_at ru
  obtain ⟨a', o', items', n', t1', t2', t3', rfl, ho', hc', hd', e'⟩ := row_at rv
  unfold kas_ask
  rw [gu, gv]
  refine kat_lt ho hd ho' hd' ?_
  rw [e, e']
  have hsz : items.size = 3 ∧ items'.size = 3 := by
    rw [← Array.length_toList, ← Array.length_toList, e, e']; exact ⟨rfl, rfl⟩
  show KatLex prog w A true _ C [(.int x.1 t1, .int y.1 t1'), (.str x.2.1 t2, .str y.2.1 t2'), (.int x.2.2 t3, .int y.2.2 t3')] 0 s
  refine kat_cons (wpAny_eqBool_int ?_)
  by_cases e1 : x.1 = y.1
  · rw [show (x.1 == y.1) = true from by simp [e1]]
    refine kat_yes (kat_cons (eqBool_str ?_))
    by_cases e2 : x.2.1 = y.2.1
    · rw [show (x.2.1 == y.2.1) = true from by simp [e2]]
      refine kat_yes (kat_cons (wpAny_eqBool_int ?_))
      by_cases e3 : x.2.2 = y.2.2
      · rw [show (x.2.2 == y.2.2) = true from by simp [e3]]
        refine kat_yes (kat_nil ?_)
        have : decide (lt3 (rk x) (rk y)) = decide (items.size < items'.size) := by
          rw [hsz.1, hsz.2]
          rw [decide_eq_false (by unfold lt3 rk; simp only; rintro (h | ⟨_, h | ⟨_, h⟩⟩); · omega
                                  · rw [e2] at h; exact List.lt_irrefl _ h
                                  · omega)]
          rfl
        rw [← this]; exact h
      · rw [show (x.2.2 == y.2.2) = false from by simp [e3]]
        refine kat_no (kat_one _ _ (PyProof.Rows.lt_int ?_))
        have : decide (lt3 (rk x) (rk y)) = decide (x.2.2 < y.2.2) := by
          congr 1
          apply propext
          unfold lt3 rk; simp only
          constructor
          · rintro (h | ⟨_, h | ⟨_, h⟩⟩)
            · omega
            · rw [e2] at h; exact absurd h (List.lt_irrefl _)
            · exact h
          · intro h; exact .inr ⟨e1, .inr ⟨by rw [e2], h⟩⟩
        rw [this] at h; exact h
    · rw [show (x.2.1 == y.2.1) = false from by simp [e2]]
      refine kat_no (kat_one _ _ (PySem.P.lt_str ?_))
      have : decide (lt3 (rk x) (rk y)) = decide (x.2.1.cps.toList < y.2.1.cps.toList) := by
        congr 1
        apply propext
        unfold lt3 rk; simp only
        constructor
        · rintro (h | ⟨_, h | ⟨h2, h⟩⟩)
          · omega
          · exact h
          · exact absurd (by
              obtain ⟨_, ⟨b⟩, _⟩ := x
              obtain ⟨_, ⟨b'⟩, _⟩ := y
              simp only at h2
              have : b = b' := by simpa using h2
              subst this; rfl) e2
        · intro h; exact .inr ⟨e1, .inl h⟩
      rw [this] at h; exact h
  · rw [show (x.1 == y.1) = false from by simp [e1]]
    refine kat_no (oneLt_int ?_)
    have : decide (lt3 (rk x) (rk y)) = decide (x.1 < y.1) := by
      congr 1
      apply propext
      unfold lt3 rk; simp only
      constructor
      · rintro (h | ⟨h, _⟩)
        · exact h
        · exact absurd h e1
      · exact .inl
    rw [this] at h; exact h
end
end Mine
end
section
open PySem PySem.W PyProof.Rows
set_option maxRecDepth 100000
namespace Mine
theorem row_le (x : Row) : ¬ lt3 (rk x) (rk x) := lt3_irrefl _
section
variable {prog : Program} {w : World} {A : Around} {E : Value → Shared → Prop} {s : Shared}
/-- what the places tell -/
theorem out_rows {h : Heap} {vs : List Value} {rows : List Row} (hr : RvL h vs (rowsA rows)) {p : Array Nat} (hp : p.Perm (List.range rows.length).toArray) (hs : SoR (O := rowOrd) (fun i => rk (rows.getD i (0, "", 0))) p rows.length) :
    ∃ rows', RvL h (p.toList.map fun i => vs.getD i Value.none) (rowsA rows') ∧ rows'.Perm rows ∧ Sorted3 rows' := by
  have hpl : p.toList.Perm (List.range rows.length) := by
    have := Array.perm_iff_toList_perm.mp hp
    simpa using this
  have lt : ∀ i ∈ p.toList, i < rows.length := fun i hi => by simpa using hpl.subset hi
  refine ⟨p.toList.map fun i => rows.getD i (0, "", 0), ?_, ?_, ?_⟩
  · have key : ∀ l : List Nat, (∀ i ∈ l, i < rows.length) → RvL h (l.map fun i => vs.getD i Value.none) (rowsA (l.map fun i => rows.getD i (0, "", 0))) := by
      intro l
      induction l with
      | nil => intro _; exact .nil
      | cons i l ih =>
        intro hl
        have hi := hl i (.head _)
        obtain ⟨x, hx⟩ : ∃ x, rows[i]? = some x := ⟨_, List.getElem?_eq_getElem hi⟩
        obtain ⟨u, hu, ru⟩ := hr.get (i := i) (a := .d (rowP x)) (by simp [hx])
        refine .cons ?_ (ih fun j hj => hl j (.tail _ hj))
        show Rv h (vs.getD i Value.none) (.d (rowP (rows.getD i (0, "", 0))))
        rw [show vs.getD i Value.none = u from by simp [hu], show rows.getD i (0, "", 0) = x from by simp [hx]]
        exact ru
    exact key _ lt
  · have h1 := hpl.map fun i => rows.getD i ((0, "", 0) : Row)
    have h2 : (List.range rows.length).map (fun i => rows.getD i ((0, "", 0) : Row)) = rows := by
      apply List.ext_getElem?
      intro i
      rw [List.getElem?_map]
      by_cases hi : i < rows.length
      · simp [hi]
      · simp [hi]
    rwa [h2] at h1
  · unfold Sorted3
    rw [List.pairwise_iff_getElem]
    intro i j hi hj hij
    simp only [List.length_map, Array.length_toList] at hi hj
    have hsz : p.size = rows.length := by rw [← Array.length_toList, hpl.length_eq]; simp
    have := hs i j (by omega) (by omega)
    unfold KeyOrd.kle RK at this
    simp only [decide_eq_false_iff_not] at this
    simp only [List.getElem_map, Array.getElem_toList]
    have e1 : p.getD i 0 = p[i] := by simp [Array.getD, hi]
    have e2 : p.getD j 0 = p[j] := by simp [Array.getD, hj]
    rw [e1, e2] at this
    exact this
theorem sort_list {a : Addr} {vs : List Value} {rows : List Row} {n : Nat} {P : Fin → Shared → Prop} (ho : s.heap.get? a = some (seqObj "list" vs.toArray n)) (hr : RvL s.heap vs (rowsA rows)) (h1 : 1 ≤ rows.length) (h64 : rows.length < 64)
    (h : ∀ (out : List Value) (rows' : List Row), RvL s.heap out (rowsA rows') → rows'.Perm rows → Sorted3 rows' → P (.done (.ret .none)) { s with heap := sortedHeap s.heap a vs out.toArray }) :
    wpAny (model prog w) A (Builtin.«list.sort» ⟨[.ref a], []⟩) P E s := by
  have hlen : vs.length = rows.length := by rw [hr.length]; simp
  rw [list_sort_plain]
  have ha : a < s.heap.objs.size := Heap.lt_size ho
  refine wpAny_bind (listItems_at ho rfl ?_)
  refine wpAny_bind (listUpdate_at ho rfl ?_ (by rw [List.size_toArray, sizeLine_eq]; omega) (Nat.zero_le _))
  obtain ⟨e1, ho1⟩ : ∃ e1, (s.heap.update a (Obj.mapSeq fun _ => (#[] : Array Value))).get? a = some (seqObj "list" #[] e1) := ⟨_, get?_update_seq ho fun _ => #[]⟩
  refine wpAny_bind (seqEpoch_at ho1 rfl ?_)
  refine wpAny_bind (wpAny_newTuple ?_ (by show vs.length ≤ _; rw [sizeLine_eq]; omega))
  refine wpAny_bind (wpAny_newList ?_ (Nat.zero_le _))
  refine wpAny_holding ?_
  show wpAny (model prog w) A _ P E { s with heap := ((s.heap.update a (Obj.mapSeq fun _ => #[])).push (seqObj "tuple" vs.toArray 0)).push (seqObj "list" #[] 0) }
  have keep : ∀ b o, b ≠ a → s.heap.get? b = some o → (((s.heap.update a (Obj.mapSeq fun _ => #[])).push (seqObj "tuple" vs.toArray 0)).push (seqObj "list" #[] 0)).get? b = some o := fun b o q e =>
    push_keeps _ _ _ _ (push_keeps _ _ _ _ ((Heap.get?_update_other _ _ (Ne.symm q)).trans e))
  have ho6 : (((s.heap.update a (Obj.mapSeq fun _ => #[])).push (seqObj "tuple" vs.toArray 0)).push (seqObj "list" #[] 0)).get? a = some (seqObj "list" #[] e1) := push_keeps _ _ _ _ (push_keeps _ _ _ _ ho1)
  have le : Le s.heap (((s.heap.update a (Obj.mapSeq fun _ => #[])).push (seqObj "tuple" vs.toArray 0)).push (seqObj "list" #[] 0)) := fun b o e t => keep b o (fun z => by
    subst z; rw [ho] at e; cases e; have := t.1; simp [seqObj] at this) e
  generalize hH : (((s.heap.update a (Obj.mapSeq fun _ => #[])).push (seqObj "tuple" vs.toArray 0)).push (seqObj "list" #[] 0)) = H at ho6 le ⊢
  have fin : ∀ (out : List Value) (rows' : List Row), RvL s.heap out (rowsA rows') → rows'.Perm rows → Sorted3 rows' → P (.done (.ret .none)) { s with heap := H.update a (Obj.mapSeq fun _ => out.toArray) } := fun out rows' a1 a2 a3 => by
    have := h out rows' a1 a2 a3
    unfold sortedHeap at this
    rw [hH] at this; exact this
  dsimp only
  have hr' := hr.le le
  by_cases h2 : vs.toArray.size < 2
  · rw [if_pos h2, if_pos h2]
    obtain ⟨v, rfl⟩ : ∃ v, vs = [v] := len1 (by rw [List.size_toArray] at h2; clear fin hr' hr le ho6; omega)
    refine wpAny_bind (wpAny_pure ?_)
    rw [StateT.run_pure]
    refine wpAny_bind (wpAny_pure ?_)
    dsimp only
    have hz : (arrOf (SortSt.mk' general' ([v].toArray.zip [v].toArray) #[] 7 none)).map (·.2) = [v].toArray := by
      show ([v].toArray.zip [v].toArray).map (·.2) = [v].toArray
      simp
    rw [hz]
    refine wpAny_bind (seqEpoch_at ho6 rfl ?_)
    refine wpAny_bind (listUpdate_at ho6 rfl ?_ (Nat.zero_le _) (by rw [List.size_toArray, sizeLine_eq]; exact Nat.le_of_ble_eq_true rfl))
    simp only [bne_self_eq_false, Bool.false_eq_true, if_false]
    refine wpAny_pure (fin [v] rows hr (.refl _) ?_)
    obtain ⟨x, rfl⟩ : ∃ x, rows = [x] := List.length_eq_one_iff.mp hlen.symm
    exact List.pairwise_singleton _ _
  · rw [if_neg h2, if_neg h2]
    have h2' : 2 ≤ vs.length := by rw [List.size_toArray] at h2; omega
    have kt : ∃ fs : List Value, KatTups H vs fs ∧ fs.length = vs.length ∧ ∀ v ∈ fs, ∃ i t, v = .int i t := by
      have key : ∀ {vs : List Value} {rows : List Row}, RvL H vs (rowsA rows) → ∃ fs : List Value, KatTups H vs fs ∧ fs.length = vs.length ∧ ∀ v ∈ fs, ∃ i t, v = .int i t := by
        intro vs rows hr
        induction rows generalizing vs with
        | nil => cases hr; exact ⟨[], .nil, rfl, fun _ h => (nomatch h)⟩
        | cons x rows ih =>
          cases hr with
          | cons a b =>
            obtain ⟨fs, f1, f2, f3⟩ := ih b
            obtain ⟨ad, o, items, n, t1, t2, t3, rfl, g1, g2, g3, g4⟩ := row_at a
            refine ⟨.int x.1 t1 :: fs, .cons g1 g2 g3 (by rw [← Array.getElem?_toList, g4]; rfl) f1, by simp [f2], fun v hv => ?_⟩
            rcases List.mem_cons.mp hv with rfl | hv
            · exact ⟨_, _, rfl⟩
            · exact f3 v hv
      exact key hr'
    obtain ⟨fs, f1, f2, f3⟩ := kt
    refine wpAny_bind (kat_kind (s := { s with heap := H }) (T := .type "int") f1 (by omega) (fun v hv => by obtain ⟨i, t, rfl⟩ := f3 v hv; exact .now) (by decide) ?_)
    rw [show (Value.type "int" != Value.type "tuple") = true from by decide]
    refine wpAny_bind (wpAny_mono (kat_run (ks := vs) (vs := vs) (s := { s with heap := H }) (G := fun p s' => s' = { s with heap := H } ∧ p.Perm (List.range rows.length).toArray ∧ SoR (O := rowOrd) (fun i => rk (rows.getD i (0, "", 0))) p rows.length)
      (Q := fun st' s' => s' = { s with heap := H } ∧ ∃ p : Array Nat, p.size = vs.length ∧ arrOf st' = p.map (kas_item (vs.toArray.zip vs.toArray)) ∧ failedOf st' = none ∧ p.Perm (List.range rows.length).toArray ∧ SoR (O := rowOrd) (fun i => rk (rows.getD i (0, "", 0))) p rows.length)
      rfl h2' (by omega) (fun p st' s' a1 a2 a3 a4 => ⟨a4.1, p, a1, a2, a3, a4.2⟩) ?_) ?_ fun _ _ e => e)
    · rw [hlen]
      refine WT.wp (lt := ltR (O := rowOrd) fun i => rk (rows.getD i (0, "", 0))) (N := rows.length) (fun i j C hi hj hc => lt_rows (s := { s with heap := H }) hr' hi hj hc) _ (sort_W (by omega) fun p hp hs => ⟨rfl, hp, hs⟩)
    rintro ⟨⟨⟩, st'⟩ s' ⟨rfl, p, hp1, har, hf, hp2, hs⟩
    dsimp only
    have hout := kat_snds rfl har
    rw [hout]
    have hsz : (List.toArray (p.toList.map fun i => vs.getD i Value.none)).size = vs.length := by rw [List.size_toArray, List.length_map, Array.length_toList, hp1]
    refine wpAny_bind (seqEpoch_at ho6 rfl ?_)
    refine wpAny_bind (listUpdate_at ho6 rfl ?_ (Nat.zero_le _) (Nat.le_trans (Nat.le_of_eq hsz) (by rw [sizeLine_eq]; omega)))
    rw [hf]
    simp only [bne_self_eq_false, Bool.false_eq_true, if_false]
    obtain ⟨rows', o1, o2, o3⟩ := out_rows hr hp2 hs
    exact wpAny_pure (fin _ rows' o1 o2 o3)
end
end Mine
end
section
open PySem PySem.W PyProof.Rows
set_option maxRecDepth 100000
namespace Mine
section
variable {prog : Program} {w : World} {C : Cx w} {E : Value → Shared → Prop} {D : DS}
theorem ol_sorted {i : Nat} {a : Addr} {rows : List Row} {Q : AV → DS → Prop} (hi : D.rs[i]? = some (one prog w a (.list (rowsA rows)))) (h1 : 1 ≤ rows.length) (h64 : rows.length < 64)
    (h : ∀ b rows', rows'.Perm rows → Sorted3 rows' → Q (.v (.ref b)) ⟨D.m, D.rs ++ [one prog w b (.list (rowsA rows'))]⟩) : OL prog w C E Rv (fun vs => call (.builtin "sorted") vs) [.v (.ref a)] D Q := olv1 fun s d => by
      obtain ⟨arr, hl, hr⟩ := d.listAt hi
      obtain ⟨vs, rfl⟩ : ∃ vs : List Value, arr = vs.toArray := ⟨arr.toList, by simp⟩
      rw [List.toList_toArray] at hr
      have hlen : vs.length = rows.length := by rw [hr.length]; simp
      refine Calls.call_function_entry kind_sorted plain_sorted entry_sorted (args_sorted1 _) ?_
      unfold Builtin.«sorted»
      refine wpAny_bind (m := checkCount "sorted" 1 1 _) (wpAny_pure ?_)
      refine wpAny_bind (collect_list hl.isList ?_ (by rw [sizeLine_eq]; omega))
      refine wpAny_bind (wpAny_newList ?_ (by rw [sizeLine_eq]; omega))
      have hsz : ((s.heap.push (seqObj "list" #[] 0)).update s.heap.objs.size (Obj.mapSeq (· ++ vs.toArray))).objs.size = s.heap.objs.size + 1 := by
        rw [Heap.size_update, size_push']
      have hoL : (((s.heap.push (seqObj "list" #[] 0)).update s.heap.objs.size (Obj.mapSeq (· ++ vs.toArray))).push (seqObj "list" vs.toArray 0)).get? (s.heap.objs.size + 1) = some (seqObj "list" vs.toArray 0) := by
        rw [← hsz]; exact Heap.get?_push_size _ rfl
      have keep : ∀ b o, s.heap.get? b = some o → (((s.heap.push (seqObj "list" #[] 0)).update s.heap.objs.size (Obj.mapSeq (· ++ vs.toArray))).push (seqObj "list" vs.toArray 0)).get? b = some o := fun b o q => by
        have hlt : b < s.heap.objs.size := Heap.lt_size q
        exact push_keeps _ _ _ _ ((Heap.get?_update_other _ _ (Nat.ne_of_gt hlt)).trans (push_keeps _ _ _ _ q))
      show wpAny _ _ _ _ _ { s with heap := ((s.heap.push (seqObj "list" #[] 0)).update s.heap.objs.size (Obj.mapSeq (· ++ vs.toArray))).push (seqObj "list" vs.toArray 0) }
      rw [hsz]
      have hsz2 : (((s.heap.push (seqObj "list" #[] 0)).update s.heap.objs.size (Obj.mapSeq (· ++ vs.toArray))).push (seqObj "list" vs.toArray 0)).objs.size = s.heap.objs.size + 2 := by
        rw [size_push', hsz]
      generalize hH : ((s.heap.push (seqObj "list" #[] 0)).update s.heap.objs.size (Obj.mapSeq (· ++ vs.toArray))).push (seqObj "list" vs.toArray 0) = H at hoL keep hsz2 ⊢
      have hr' := hr.le (.of_keeps keep)
      refine wpAny_bind (wpAny_holding (wpAny_call_entry slot_list_sort ⟨_, hoL, rfl⟩ entry_list_sort (sort_list (s := { s with heap := H }) hoL hr' h1 h64 fun out rows' o1 o2 o3 => ⟨_, rfl, ?_⟩) (args_list_sort _)))
      refine wpAny_pure ⟨_, rfl, ?_⟩
      have hoD : ∃ e, (sortedHeap H (s.heap.objs.size + 1) vs out.toArray).get? (s.heap.objs.size + 1) = some (seqObj "list" out.toArray e) := by
        unfold sortedHeap
        obtain ⟨e1, q1⟩ : ∃ e1, (H.update (s.heap.objs.size + 1) (Obj.mapSeq fun _ => (#[] : Array Value))).get? (s.heap.objs.size + 1) = some (seqObj "list" #[] e1) := ⟨_, get?_update_seq hoL fun _ => #[]⟩
        exact ⟨_, get?_update_seq (push_keeps _ _ _ _ (push_keeps _ _ _ _ q1)) fun _ => out.toArray⟩
      have keepD : ∀ b o, b ≠ s.heap.objs.size + 1 → H.get? b = some o → (sortedHeap H (s.heap.objs.size + 1) vs out.toArray).get? b = some o := fun b o q e => by
        unfold sortedHeap
        exact (Heap.get?_update_other _ _ (Ne.symm q)).trans (push_keeps _ _ _ _ (push_keeps _ _ _ _ ((Heap.get?_update_other _ _ (Ne.symm q)).trans e)))
      have keep2 : ∀ b o, s.heap.get? b = some o → (sortedHeap H (s.heap.objs.size + 1) vs out.toArray).get? b = some o := fun b o e => by
        have hlt : b < s.heap.objs.size := Heap.lt_size e
        exact keepD b o (Nat.ne_of_lt (Nat.lt_succ_of_lt hlt)) (keep b o e)
      obtain ⟨e, hoD⟩ := hoD
      have leD : Le H (sortedHeap H (s.heap.objs.size + 1) vs out.toArray) := fun b o q t => keepD b o (fun z => by
        subst z; rw [hoL] at q; cases q; have := t.1; simp at this) q
      have hszD : s.heap.objs.size ≤ (sortedHeap H (s.heap.objs.size + 1) vs out.toArray).objs.size := by
        have := Heap.lt_size hoD
        exact Nat.le_of_lt (Nat.lt_of_succ_lt this)
      exact .intro (d.new (one prog w (s.heap.objs.size + 1) (.list (rowsA rows'))) (tk := s.toks) keep2 hszD ⟨out.toArray, e, hoD, by rw [List.toList_toArray]; exact o1.le leD⟩ (by simp [one]) (by simp [one])) (.v _) (h _ rows' o2 o3)
end
end Mine
end
section
open PySem PySem.W
set_option maxRecDepth 100000
namespace Mine
noncomputable def rowsOf (t : Tb) : List Row := t.map fun kv => (kv.2.1, kv.2.2, kv.1)
noncomputable def acc (O : Ops) : Nat → List Row
  | 0 => []
  | 1 => [] ++ rowsOf O.P
  | 2 => [] ++ rowsOf O.P ++ rowsOf O.I
  | _ => [] ++ rowsOf O.P ++ rowsOf O.I ++ rowsOf O.Q
theorem acc_len (O : Ops) (k : Nat) : (acc O k).length ≤ O.P.length + O.I.length + O.Q.length := by
  unfold acc; split <;> simp [rowsOf] <;> omega
section
variable {prog : Program} {w : World}
set_option maxHeartbeats 4000000
theorem fn_rows (B : BA) (X : OA) (O : Ops) (h1 : 1 ≤ O.P.length + O.I.length + O.Q.length) (hlt : O.P.length + O.I.length + O.Q.length < 64) :
    Fn prog w (.ref 295) 2 [.v (.ref X.o)] (opsRs prog w B X O) (fun av rs' nw => ∃ b rows, av = .v (.ref b) ∧ rs' = opsRs prog w B X O ∧ nw = [one prog w b (.list (rowsA rows))] ∧ rows.Perm (acc O 3) ∧ Sorted3 rows) := by
  refine fn_body ["self"] ["found", "table", "a", "entry"] (by rfl) (by rfl) (by kernel_rfl) ?_ (by rfl) (by decide) (by decide) (by decide) ?_ (by rfl) (by rfl) (by rfl)
  · intro vals h
    obtain ⟨a, rfl⟩ := len1 h
    rfl
  intro C hC ho
  refine ss_cons <| s_assign (i := 1) <| e_list <| l_nil ⟨by decide, fun f => ⟨⟨_, by rfl⟩, ?_⟩⟩
  let W : List Row → DS := fun r => ⟨[("self", some (.v (.ref X.o))), ("found", some (.v (.ref f))), ("table", none), ("a", none), ("entry", none)], opsRs prog w B X O ++ [one prog w f (.list (rowsA r))]⟩
  refine GV.less (D' := W []) (fun s d => d) ?_
  refine ss_cut (fun D₁ => D₁ = W (acc O 3)) ?_ ?_
  rotate_left
  · refine w_eq ?_
    refine ss_cons <| s_ret <| e_bcall (l_cons <| e_loc (i := 1) (by rfl) <| l_nil <| ol_sorted (i := 4) (by rfl) ?_ ?_ fun b rows' p1 p2 => ?_) kp_builtin
    · simp [acc, rowsOf]; omega
    · simp [acc, rowsOf]; omega
    exact ⟨opsRs prog w B X O, [one prog w b (.list (rowsA rows'))], [_], (List.Perm.swap _ _ _).append_left (opsRs prog w B X O), rfl, b, rows', rfl, rfl, rfl, p1, p2⟩
  refine s_for ?_
  refine e_tup <| l_cons <| e_attr <| e_loc (i := 0) (by rfl) <| o_attr (i := 0) (by rfl) (by rfl) ?_
  refine l_cons <| e_attr <| e_loc (i := 0) (by rfl) <| o_attr (i := 0) (by rfl) (by rfl) ?_
  refine l_cons <| e_attr <| e_loc (i := 0) (by rfl) <| o_attr (i := 0) (by rfl) (by rfl) <| l_nil ⟨by simp, ?_⟩
  let tabs : List AV := [.v (.ref X.p), .v (.ref X.i), .v (.ref X.q)]
  refine oi_tup fun I t => ⟨srcTup prog C I t tabs, rfl, fun k D' => D' = W (acc O k), fun _ _ _ _ h => (nomatch h), ⟨_, to_of, rfl⟩, ?_, ?_⟩
  rotate_left
  · refine w_eq ?_
    exact ⟨_, fun _ d => d, rfl⟩
  rintro k x _ hx rfl
  have hk : k < 3 := (List.getElem?_eq_some_iff.mp hx).1
  have hk' : (k = 0 ∧ x = .v (.ref X.p)) ∨ (k = 1 ∧ x = .v (.ref X.i)) ∨ (k = 2 ∧ x = .v (.ref X.q)) := by
    have hx' : tabs[k]? = some x := hx
    match k, hk, hx' with
    | 0, _, h => exact .inl ⟨rfl, by simpa [tabs] using h.symm⟩
    | 1, _, h => exact .inr (.inl ⟨rfl, by simpa [tabs] using h.symm⟩)
    | 2, _, h => exact .inr (.inr ⟨rfl, by simpa [tabs] using h.symm⟩)
  rcases hk' with ⟨rfl, rfl⟩ | ⟨rfl, rfl⟩ | ⟨rfl, rfl⟩
  · -- table 0
    refine as_name (i := 2) (by rfl) ?_
    refine ss_cons ?_
    refine s_forI <| e_meth <| e_loc (i := 2) (by rfl) ⟨_, gm_pl (plI prog w) (i := 1) (by rfl) PySem.F.slot_dict_items PySem.F.type_dict_items, kp_builtin, ?_⟩
    refine l_nil <| ol_items (i := 1) (a := X.p) (by rfl) (.head _) (fun s x => by obtain ⟨xs, x1, _⟩ := (x : RO prog w s.heap X.p (.dI (tbA O.P))); exact x1.typeIs) fun v => ?_
    refine oi_items (i := 6) (j := 1) (by rfl) (by rfl) (fun h x => pin_I x) fun J ep => ⟨J, X.p, .dI (tbA O.P), ep, kvI (tbA O.P), rfl, ?_⟩
    let Y : Nat → DS := fun n => ⟨[("self", some (.v (.ref X.o))), ("found", some (.v (.ref f))), ("table", none), ("a", none), ("entry", none)],
      [instR X.o X.d 347 (opsFs B X), pinR prog w X.p (.dI (tbA O.P)) ep (kvI (tbA O.P)), one prog w X.i (.dI (tbA O.I)), one prog w X.q (.dI (tbA O.Q)), one prog w f (.list (rowsA (acc O 0 ++ rowsOf (O.P.take n)))), itTup I t (0 + 1) tabs]⟩
    refine ⟨fun n D' => D' = Y n, ?_, ⟨Y 0, ?_, rfl⟩, ?_, ?_⟩
    · rintro n _ rfl; simp [Y]
    · simp only [Y, List.take_zero, rowsOf, List.map_nil, List.append_nil]
      exact to_oS
    · rintro n p _ hp rfl
      obtain ⟨kv, hkv, rfl⟩ : ∃ kv, O.P[n]? = some kv ∧ p = (.d (.int kv.1), entA kv.2) := by
        simp only [kvI, tbA, List.getElem?_map, Option.map_eq_some_iff] at hp
        obtain ⟨_, ⟨kv, h1, rfl⟩, rfl⟩ := hp
        exact ⟨kv, h1, rfl⟩
      refine as_tup <| al_cons <| as_name (i := 3) (by rfl) <| al_cons <| as_name (i := 4) (by rfl) <| al_nil ?_
      refine ss_cons <| s_expr <| e_meth <| e_loc (i := 1) (by rfl) ⟨_, gm_append (i := 4) (by rfl), kp_builtin, ?_⟩
      refine l_cons ?_
      refine e_tuple ?_
      refine l_cons <| e_sub <| e_loc (i := 4) (by rfl) <| e_int <| i_tuple (k := 0) (by rfl) ?_
      refine l_cons <| e_sub <| e_loc (i := 4) (by rfl) <| e_int <| i_tuple (k := 1) (by rfl) ?_
      refine l_cons <| e_loc (i := 3) (by rfl) <| l_nil ⟨[.int kv.2.1, .str kv.2.2, .int kv.1], rfl, by simp, ?_⟩
      have hlen : (rowsA (acc O 0 ++ rowsOf (O.P.take n))).length ≤ 10000 := by
        have := acc_len O 0
        have h2 : (O.P.take n).length ≤ O.P.length := by rw [List.length_take]; omega
        have h3 : O.P.length + O.I.length + O.Q.length < 64 := hlt
        simp only [List.length_map, List.length_append, rowsOf]
        omega
      refine l_nil <| ol_append (i := 4) (by rfl) hlen ?_
      have e : rowsA (acc O 0 ++ rowsOf (O.P.take n)) ++ [AV.d (.tuple [.int kv.2.1, .str kv.2.2, .int kv.1])] = rowsA (acc O 0 ++ rowsOf (O.P.take (n + 1))) := by
        rw [List.take_add_one, hkv]; simp [rowsOf]
      rw [e]
      exact ss_nil ⟨Y (n + 1), to_of, rfl⟩
    · refine w_eq ?_
      refine ss_nil ⟨W (acc O (0 + 1)), ?_, rfl⟩
      have e : acc O 0 ++ rowsOf (O.P.take (kvI (tbA O.P)).length) = acc O (0 + 1) := by
        rw [show (kvI (tbA O.P)).length = O.P.length from by simp [kvI, tbA], List.take_length]; rfl
      simp only [Y, e]
      intro s d
      exact d.weak (i := 1) (r := pinR prog w X.p (.dI (tbA O.P)) ep (kvI (tbA O.P))) (r' := one prog w X.p (.dI (tbA O.P))) (by rfl) rfl fun h x => x.1
  · -- table 1
    refine as_name (i := 2) (by rfl) ?_
    refine ss_cons ?_
    refine s_forI <| e_meth <| e_loc (i := 2) (by rfl) ⟨_, gm_pl (plI prog w) (i := 2) (by rfl) PySem.F.slot_dict_items PySem.F.type_dict_items, kp_builtin, ?_⟩
    refine l_nil <| ol_items (i := 2) (a := X.i) (by rfl) (.head _) (fun s x => by obtain ⟨xs, x1, _⟩ := (x : RO prog w s.heap X.i (.dI (tbA O.I))); exact x1.typeIs) fun v => ?_
    refine oi_items (i := 6) (j := 2) (by rfl) (by rfl) (fun h x => pin_I x) fun J ep => ⟨J, X.i, .dI (tbA O.I), ep, kvI (tbA O.I), rfl, ?_⟩
    let Y : Nat → DS := fun n => ⟨[("self", some (.v (.ref X.o))), ("found", some (.v (.ref f))), ("table", none), ("a", none), ("entry", none)],
      [instR X.o X.d 347 (opsFs B X), one prog w X.p (.dI (tbA O.P)), pinR prog w X.i (.dI (tbA O.I)) ep (kvI (tbA O.I)), one prog w X.q (.dI (tbA O.Q)), one prog w f (.list (rowsA (acc O 1 ++ rowsOf (O.I.take n)))), itTup I t (1 + 1) tabs]⟩
    refine ⟨fun n D' => D' = Y n, ?_, ⟨Y 0, ?_, rfl⟩, ?_, ?_⟩
    · rintro n _ rfl; simp [Y]
    · simp only [Y, List.take_zero, rowsOf, List.map_nil, List.append_nil]
      exact to_oS
    · rintro n p _ hp rfl
      obtain ⟨kv, hkv, rfl⟩ : ∃ kv, O.I[n]? = some kv ∧ p = (.d (.int kv.1), entA kv.2) := by
        simp only [kvI, tbA, List.getElem?_map, Option.map_eq_some_iff] at hp
        obtain ⟨_, ⟨kv, h1, rfl⟩, rfl⟩ := hp
        exact ⟨kv, h1, rfl⟩
      refine as_tup <| al_cons <| as_name (i := 3) (by rfl) <| al_cons <| as_name (i := 4) (by rfl) <| al_nil ?_
      refine ss_cons <| s_expr <| e_meth <| e_loc (i := 1) (by rfl) ⟨_, gm_append (i := 4) (by rfl), kp_builtin, ?_⟩
      refine l_cons ?_
      refine e_tuple ?_
      refine l_cons <| e_sub <| e_loc (i := 4) (by rfl) <| e_int <| i_tuple (k := 0) (by rfl) ?_
      refine l_cons <| e_sub <| e_loc (i := 4) (by rfl) <| e_int <| i_tuple (k := 1) (by rfl) ?_
      refine l_cons <| e_loc (i := 3) (by rfl) <| l_nil ⟨[.int kv.2.1, .str kv.2.2, .int kv.1], rfl, by simp, ?_⟩
      have hlen : (rowsA (acc O 1 ++ rowsOf (O.I.take n))).length ≤ 10000 := by
        have := acc_len O 1
        have h2 : (O.I.take n).length ≤ O.I.length := by rw [List.length_take]; omega
        have h3 : O.P.length + O.I.length + O.Q.length < 64 := hlt
        simp only [List.length_map, List.length_append, rowsOf]
        omega
      refine l_nil <| ol_append (i := 4) (by rfl) hlen ?_
      have e : rowsA (acc O 1 ++ rowsOf (O.I.take n)) ++ [AV.d (.tuple [.int kv.2.1, .str kv.2.2, .int kv.1])] = rowsA (acc O 1 ++ rowsOf (O.I.take (n + 1))) := by
        rw [List.take_add_one, hkv]; simp [rowsOf]
      rw [e]
      exact ss_nil ⟨Y (n + 1), to_of, rfl⟩
    · refine w_eq ?_
      refine ss_nil ⟨W (acc O (1 + 1)), ?_, rfl⟩
      have e : acc O 1 ++ rowsOf (O.I.take (kvI (tbA O.I)).length) = acc O (1 + 1) := by
        rw [show (kvI (tbA O.I)).length = O.I.length from by simp [kvI, tbA], List.take_length]; rfl
      simp only [Y, e]
      intro s d
      exact d.weak (i := 2) (r := pinR prog w X.i (.dI (tbA O.I)) ep (kvI (tbA O.I))) (r' := one prog w X.i (.dI (tbA O.I))) (by rfl) rfl fun h x => x.1
  · -- table 2
    refine as_name (i := 2) (by rfl) ?_
    refine ss_cons ?_
    refine s_forI <| e_meth <| e_loc (i := 2) (by rfl) ⟨_, gm_pl (plI prog w) (i := 3) (by rfl) PySem.F.slot_dict_items PySem.F.type_dict_items, kp_builtin, ?_⟩
    refine l_nil <| ol_items (i := 3) (a := X.q) (by rfl) (.head _) (fun s x => by obtain ⟨xs, x1, _⟩ := (x : RO prog w s.heap X.q (.dI (tbA O.Q))); exact x1.typeIs) fun v => ?_
    refine oi_items (i := 6) (j := 3) (by rfl) (by rfl) (fun h x => pin_I x) fun J ep => ⟨J, X.q, .dI (tbA O.Q), ep, kvI (tbA O.Q), rfl, ?_⟩
    let Y : Nat → DS := fun n => ⟨[("self", some (.v (.ref X.o))), ("found", some (.v (.ref f))), ("table", none), ("a", none), ("entry", none)],
      [instR X.o X.d 347 (opsFs B X), one prog w X.p (.dI (tbA O.P)), one prog w X.i (.dI (tbA O.I)), pinR prog w X.q (.dI (tbA O.Q)) ep (kvI (tbA O.Q)), one prog w f (.list (rowsA (acc O 2 ++ rowsOf (O.Q.take n)))), itTup I t (2 + 1) tabs]⟩
    refine ⟨fun n D' => D' = Y n, ?_, ⟨Y 0, ?_, rfl⟩, ?_, ?_⟩
    · rintro n _ rfl; simp [Y]
    · simp only [Y, List.take_zero, rowsOf, List.map_nil, List.append_nil]
      exact to_oS
    · rintro n p _ hp rfl
      obtain ⟨kv, hkv, rfl⟩ : ∃ kv, O.Q[n]? = some kv ∧ p = (.d (.int kv.1), entA kv.2) := by
        simp only [kvI, tbA, List.getElem?_map, Option.map_eq_some_iff] at hp
        obtain ⟨_, ⟨kv, h1, rfl⟩, rfl⟩ := hp
        exact ⟨kv, h1, rfl⟩
      refine as_tup <| al_cons <| as_name (i := 3) (by rfl) <| al_cons <| as_name (i := 4) (by rfl) <| al_nil ?_
      refine ss_cons <| s_expr <| e_meth <| e_loc (i := 1) (by rfl) ⟨_, gm_append (i := 4) (by rfl), kp_builtin, ?_⟩
      refine l_cons ?_
      refine e_tuple ?_
      refine l_cons <| e_sub <| e_loc (i := 4) (by rfl) <| e_int <| i_tuple (k := 0) (by rfl) ?_
      refine l_cons <| e_sub <| e_loc (i := 4) (by rfl) <| e_int <| i_tuple (k := 1) (by rfl) ?_
      refine l_cons <| e_loc (i := 3) (by rfl) <| l_nil ⟨[.int kv.2.1, .str kv.2.2, .int kv.1], rfl, by simp, ?_⟩
      have hlen : (rowsA (acc O 2 ++ rowsOf (O.Q.take n))).length ≤ 10000 := by
        have := acc_len O 2
        have h2 : (O.Q.take n).length ≤ O.Q.length := by rw [List.length_take]; omega
        have h3 : O.P.length + O.I.length + O.Q.length < 64 := hlt
        simp only [List.length_map, List.length_append, rowsOf]
        omega
      refine l_nil <| ol_append (i := 4) (by rfl) hlen ?_
      have e : rowsA (acc O 2 ++ rowsOf (O.Q.take n)) ++ [AV.d (.tuple [.int kv.2.1, .str kv.2.2, .int kv.1])] = rowsA (acc O 2 ++ rowsOf (O.Q.take (n + 1))) := by
        rw [List.take_add_one, hkv]; simp [rowsOf]
      rw [e]
      exact ss_nil ⟨Y (n + 1), to_of, rfl⟩
    · refine w_eq ?_
      refine ss_nil ⟨W (acc O (2 + 1)), ?_, rfl⟩
      have e : acc O 2 ++ rowsOf (O.Q.take (kvI (tbA O.Q)).length) = acc O (2 + 1) := by
        rw [show (kvI (tbA O.Q)).length = O.Q.length from by simp [kvI, tbA], List.take_length]; rfl
      simp only [Y, e]
      intro s d
      exact d.weak (i := 3) (r := pinR prog w X.q (.dI (tbA O.Q)) ep (kvI (tbA O.Q))) (r' := one prog w X.q (.dI (tbA O.Q))) (by rfl) rfl fun h x => x.1
end
end Mine
end
section
open PySem PySem.W
set_option maxRecDepth 100000
namespace Mine
theorem entry_iti : entryFor table "dict_itemiterator.__iter__" = some Builtin.«dict_keyiterator.__iter__» :=
  entryFor_alias (id' := "dict_keyiterator.__iter__") (by kernel_rfl) (by first | rfl | decide +kernel | (unfold String.splitOn; simp +decide [String.splitOnAux])) (by decide +kernel) (by kernel_rfl)
section
variable {prog : Program} {w : World} {C : Cx w} {D : DS} {env : Env} {pos : Pos} {E : Value → Shared → Prop}
theorem pyIter_item {A : Around} {s : Shared} {it : Addr} {o : Obj} {Q : Value → Shared → Prop} (ho : s.heap.get? it = some o) (hc : o.cls = .type "dict_itemiterator") (h : Q (.ref it) s) : wpAny (model prog w) A (pyIter (.ref it)) Q E s := by
  have hT : s.TypeIs (.ref it) "dict_itemiterator" := ⟨o, ho, hc⟩
  refine wpAny_pyIter_slot hT PySem.F.slot_dict_itemiterator_iter (wpAny_call_entry PySem.F.slot_dict_itemiterator_iter hT entry_iti ?_ (PySem.F.args_dict_itemiterator_iter_1 _))
  show wpAny _ _ (ret (.ref it)) _ _ s
  exact wpAny_pure ⟨_, rfl, "dict_itemiterator", _, hT, PySem.F.slot_dict_itemiterator_next.lookup, h⟩
variable (prog) in
noncomputable abbrev inRsI (C : Cx w) (m : Lc) (rs : List Reg) (I a Dl : Addr) (k n ep : Nat) (ys : List AV) : List Reg := rs ++ [itemR I a k n ep] ++ [nsR prog w C.L m, one prog w Dl (.list ys)]
end
end Mine
end
section
open PySem PySem.W PySem.Builtin PySem.Builtin.ObjectAttr
set_option maxRecDepth 100000
namespace Mine
section
variable {prog : Program} {w : World} {A : Around} {E : Value → Shared → Prop} {s : Shared}
theorem ga_exc (w : World) : findIn (KK w) (.ref 51) "__getattribute__" = some (some (.builtin "BaseException.__getattribute__")) ∧ findIn (KK w) (.ref 51) "__getattr__" = some none := ⟨by kernel_rfl, by kernel_rfl⟩
theorem get_exc {x : Addr} {ox : Obj} {od : Option Obj} {name : Str} {v : Value} {Q : Value → Shared → Prop} (X : (KK w).In s.heap) (I : InstAt s.heap x ox 51 od) (hf : findObj (KK w) 51 od name = some (.value v)) (hh : handedIn v = true) (h : Q v { s with toks := s.toks + 1 }) :
    wpAny (model prog w) A (getAttr (.ref x) name true) Q E s := by
  obtain ⟨g1, g2⟩ := ga_exc w
  obtain ⟨hp, g, dd, t, os⟩ := s
  have X : (KK w).In hp := X
  have I : InstAt hp x ox 51 od := I
  have L0 := I.type (M := model prog w)
  have L1 := looks_findIn (M := model prog w) X g1
  have L2 := looks_findIn (M := model prog w) X g2
  have L3 := looks_find (M := model prog w) X I hf
  have FB := PySem.F.attrBase_Exception
  have sub := exc_is (M := model prog w) X I "BaseException" (by decide)
  unfold getAttr
  refine wpAny_bind (wpAny_mkText ?_)
  unfold getAttrBy
  refine wpAny_holding (wpAny_bind (L0.at (wpAny_bind (L1.at ?_))))
  dsimp only
  rw [if_neg (by decide +kernel)]
  unfold getAttrByItsOwn hookBefore
  rw [if_pos (show onTheHeap (.ref 51) = true from rfl)]
  refine wpAny_bind (L2.at (wpAny_bind (wpAny_attempt (wpAny_holding ?_))))
  unfold callGetattribute
  rw [if_neg (by decide)]
  unfold boundAndCalled
  rw [FB.ga.bind]
  refine wpAny_bind (wpAny_pure ?_)
  refine wpAny_call (codeAny_call_builtin FB.ga.plain PySem.F.entry_bexc_ga (@check_slot (model prog w) _ _ ⟨hp, g, dd, t + 1, os⟩ "BaseException.__getattribute__" "BaseException" "__getattribute__" (.ref x) [.str name t] [] _ (by decide +kernel) (by decide +kernel) sub (PySem.F.args_bexc_ga (.ref x) (.str name t)) ?_))
  unfold Builtin.«object.__getattribute__»
  refine wpAny_bind (wpAny_pure (wpAny_bind (wpAny_pure (wpAny_bind (L0.at (wpAny_bind (L3.at ?_)))))))
  refine wpAny_pure ?_
  show wpAny _ _ (handedOut v) _ _ _
  rw [handedOut_of hh]
  exact wpAny_pure h
end
/-- what tuples there were, there are -/
noncomputable def leR (H : Heap) : Reg where
  foot := []
  P := fun h => Le H h
  loc := fun k _ x => x.trans k
  live := fun _ _ h => (nomatch h)
theorem feet_leR (rs : List Reg) (H : Heap) : feet (rs ++ [leR H]) = feet rs := by rw [feet_append]; simp [feet, leR]
section
variable {prog : Program} {w : World} {C : Cx w} {D : DS} {env : Env} {pos : Pos} {E : Value → Shared → Prop}
theorem Den.le_ {s : Shared} (d : Den C D s) : Den C ⟨D.m, D.rs ++ [leR s.heap]⟩ s := by
  refine ⟨d.nxt, d.base, d.keep, d.size, d.ns, fun r hr => ?_, ?_, fun a ha => ?_⟩
  · rcases List.mem_append.mp hr with hr | hr
    · exact d.regs r hr
    · rw [List.mem_singleton.mp hr]; exact .refl _
  · show (C.L :: feet (D.rs ++ [leR s.heap])).Nodup
    rw [feet_leR]; exact d.nodup
  · have ha : a ∈ C.L :: feet (D.rs ++ [leR s.heap]) := ha
    rw [feet_leR] at ha; exact d.fresh a ha
theorem Den.ofX {s : Shared} (d : DenX C D s) (hfr : ∀ a ∈ frs C.A, C.s₀.heap.objs.size ≤ a) : Den C D s :=
  ⟨d.nxt, d.base, fun a o e q => d.keep a o e q fun z => absurd (Heap.lt_size e) (Nat.not_lt.mpr (hfr a z)), d.size, d.ns, d.regs, d.nodup, d.fresh⟩
theorem Nxt.of {s₀ s s₁ : Shared} (a : Nxt s₀ s) (b : Nxt s₀ s₁) (l : Le s.heap s₁.heap) : Nxt s s₁ := by
  obtain ⟨_, h, t, rfl⟩ := a
  obtain ⟨_, h', t', rfl⟩ := b
  exact ⟨l, h', t', rfl⟩
/-- an exception is under way, the locals known -/
noncomputable def EXm {w : World} (C : Cx w) (m : Lc) (Q : AV → List Reg → Prop) (v : Value) (s : Shared) : Prop :=
  ∃ e da v0 t ball rs, v = .ref e ∧ DenX C ⟨m, exX e da v0 t :: (dictR da [("ball", ball)] :: rs)⟩ s ∧ Q ball rs
/-- a local is stored, whatever is handled -/
theorem store_any {A : Around} {i : Nat} {x : Str} {o : Option AV} {a : AV} {v : Value} {s : Shared} {Q : Unit → Shared → Prop} (d : Den C D s) (hv : Rv s.heap v a) (hi : D.m[i]? = some (x, o))
    (h : ∀ h', Nxt s { s with heap := h', toks := s.toks + 1 } ∧ Den C ⟨D.m.set i (x, some a), D.rs⟩ { s with heap := h', toks := s.toks + 1 } → Q () { s with heap := h', toks := s.toks + 1 }) (hL : env.locals = C.L)
    (hk : env.scope.kind = .function) (hl : env.kindOf x = some .local) : wpAny (model prog w) A (storeName env x v) Q E s := by
  obtain ⟨mv, hn, nd, z⟩ := d.ns
  refine wpAny_storeName_local hl (hL ▸ hn) (fun h' hn' hs => ?_) (by rw [hk]; rfl)
  rw [hL] at hn' hs
  have le : Le s.heap h' := fun b o e t => (hs.2 b (fun q => by
    subst q
    obtain ⟨o', e', t'⟩ := d.ns.notTp
    rw [e] at e'; cases e'; exact t' t)).trans e
  exact h h' (d.locals (tk := s.toks + 1) hs (d.ns.put hi le _ hn' (hv.le le) fun mv' hm' y => by
    obtain ⟨o1, es1, ep1, a1, a2, _, a3⟩ := hn
    obtain ⟨o2, es2, ep2, b1, b2, _, b3⟩ := hm'
    rw [a1] at b1; cases b1
    rw [a2] at b2; cases b2
    rw [← a3, b3]))
theorem exm51 (w : World) : exmOne (KK w) (.ref 51) (.ref 51) = some true := by kernel_rfl
theorem attr51 (w : World) (es : List DictEntry) (n : Nat) (v : Value) (h : getL "ball" es = some (some v)) : findObj (KK w) 51 (some (dictOf es n)) "ball" = some (.value v) := by
  have k2 : hasDictIn (KK w) 51 = true := by kernel_rfl
  have hf : findIn (KK w) (.ref 51) "ball" = some none := by kernel_rfl
  exact findObj_own k2 hf (by rfl) h
theorem ol_fXm {f : Value} {n : Nat} {l : List AV} {rs : List Reg} {Q₀ : AV → List Reg → List Reg → Prop} {Qx Qe : AV → List Reg → Prop} {Q : AV → DS → Prop} (hf : FnX prog w f n l rs Q₀ Qx) (is : List Nat) (O : Outs C env)
    (h : ∀ av rs' nw, Q₀ av rs' nw → Aft D is Q av rs' nw) (hx : ∀ ball rs', Qx ball rs' → Qe ball (setAll D.rs is rs'))
    (hi : pickAt D.rs is = rs.map some := by rfl) (hd : is.Nodup := by decide) (hn : n ≤ C.lv := by exact le_lv (by assumption) rfl) : OL prog w C (EXm C D.m Qe) Rv (fun vs => call f vs) l D Q := fun s vals d hv => by
  replace hi := At.of hi
  have at' := O.at d
  obtain ⟨outer, hfr, hout⟩ := O.fr
  have sub := hi.feet_sub
  refine wpAny_call (codeAny_mono (hf C.h₁ C.A s vals { d.pre hi hd hn C.handled (Nat.le_refl _) (Nat.le_refl _) hv with
      fr := ⟨_, hfr, fun x hx => ?_⟩, out := fun a ha => ⟨(at' a ha).1, fun q => (at' a ha).2.1 (sub a q), (at' a ha).2.2⟩ }) fun r s' q => ?_)
  · rcases List.mem_cons.mp hx with rfl | hx
    · exact ⟨O.kind, C.L, O.self⟩
    · exact hout x hx
  cases r with
  | ok fl => cases fl with
    | ret v => exact d.callPost hi h q
    | _ => exact q.elim
  | error v =>
    obtain ⟨n1, hz, hk, hs, e, da, v0, T, ball, rs', rfl, hr, hf', hnd, hnf, q⟩ := q
    obtain ⟨-, h', tk, rfl⟩ := id n1
    have len : is.length = rs'.length := by rw [hi.len, ← List.length_map (f := Reg.foot) (as := rs), ← hf', List.length_map]
    have ff : feet (setAll D.rs is rs') = feet D.rs := feet_of_map (setAll_foot is D.rs rs rs' (by rw [List.length_map, hi.len]) hi.foots hf')
    have e1 : feet (exX e da v0 (.tr T .none) :: (dictR da [("ball", ball)] :: setAll D.rs is rs')) = [e, T, da] ++ feet D.rs := by rw [feet_cons, feet_cons, ff]; rfl
    have le := n1.1
    have LFr : C.L ∈ frs C.A := by unfold frs; rw [hfr]; exact List.mem_filterMap.mpr ⟨env, .head _, O.self⟩
    have nL : C.L ∉ feet rs := fun z => (List.nodup_cons.mp d.nodup).1 (sub _ z)
    have own : ∀ a ∈ feet rs, a ∈ C.own ∨ C.s₀.heap.objs.size ≤ a := fun a ha => (d.fresh a (.tail _ (sub a ha))).2
    refine ⟨e, da, v0, .tr T .none, ball, setAll D.rs is rs', rfl, ⟨d.nxt.trans n1, fun a o q1 => ?_, fun a o q1 q2 q3 => ?_, fun a o q1 q2 q3 => ?_, Nat.le_trans d.size hz, ?_, fun x hx => ?_, ?_, fun a ha => ?_⟩, hx ball rs' q⟩
    · refine hk a o (fun z => ?_) (fun z => ?_) (d.base a o q1)
      · exact absurd (Heap.lt_size q1) (Nat.not_lt.mpr (d.fresh a (.tail _ (sub a z))).1)
      · rw [(at' a z).1] at q1; cases q1
    · refine hk a o (fun z => ?_) q3 (d.keep a o q1 q2)
      rcases own a z with z | z
      · exact q2 z
      · exact absurd (Heap.lt_size q1) (Nat.not_lt.mpr z)
    · refine hs a o (fun z => ?_) q3 (d.keep a o q1 q2)
      rcases own a z with z | z
      · exact q2 z
      · exact absurd (Heap.lt_size q1) (Nat.not_lt.mpr z)
    · obtain ⟨mv, ⟨o, es, ep, ho, hdd, hrr⟩, r2⟩ := d.ns
      obtain ⟨sl, h1⟩ := hs _ _ nL LFr ho
      exact ⟨mv, ⟨_, es, ep, h1, hdd, hrr⟩, r2.1, fun x av q => let ⟨v, z1, z2⟩ := r2.2 x av q; ⟨v, z1, z2.le le⟩⟩
    · rcases List.mem_cons.mp hx with rfl | hx
      · exact hr _ (.head _)
      · rcases List.mem_cons.mp hx with rfl | hx
        · exact hr _ (.tail _ (.head _))
        · obtain ⟨j, hj⟩ := List.mem_iff_getElem?.mp hx
          rcases setAll_get is D.rs rs' j x len hj with z | ⟨z1, z2⟩
          · exact hr _ (.tail _ (.tail _ z))
          · refine x.loc le (fun a ha o q => hk a o (fun z => ?_) (fun z => (at' a z).2.1 (mem_feet.mpr ⟨x, mem_of_get z2, ha⟩)) q) (d.regs x (mem_of_get z2))
            obtain ⟨r, h1, h2⟩ := mem_feet.mp z
            obtain ⟨i, i1, i2⟩ := hi.pos r h1
            exact feet_apart z2 d.rNodup i r i2 (fun e => z1 (e ▸ i1)) a ha h2
    · show (C.L :: feet (exX e da v0 (.tr T .none) :: (dictR da [("ball", ball)] :: setAll D.rs is rs'))).Nodup
      rw [e1]
      have lt : ∀ a ∈ C.L :: feet D.rs, a < s.heap.objs.size := fun a ha => (d.notTp ha).lt
      refine List.nodup_cons.mpr ⟨fun q => ?_, List.nodup_append.mpr ⟨hnd, d.rNodup, fun a ha b hb q => ?_⟩⟩
      · rcases List.mem_append.mp q with q | q
        · exact absurd (lt _ (.head _)) (Nat.not_lt.mpr (hnf _ q))
        · exact (List.nodup_cons.mp d.nodup).1 q
      · subst q
        exact absurd (lt a (.tail _ hb)) (Nat.not_lt.mpr (hnf a ha))
    · rcases List.mem_cons.mp ha with rfl | ha
      · exact d.fresh _ (.head _)
      · have ha : a ∈ feet (exX e da v0 (.tr T .none) :: (dictR da [("ball", ball)] :: setAll D.rs is rs')) := ha
        rw [e1] at ha
        rcases List.mem_append.mp ha with ha | ha
        · exact ⟨Nat.le_trans C.big (Nat.le_trans d.size (hnf a ha)), .inr (Nat.le_trans d.size (hnf a ha))⟩
        · exact d.fresh a (.tail _ ha)
theorem s_try {cx n tg : Str} {cp np tp ap as_ hp : Pos} {body : List Stmt} {Qe : AV → List Reg → Prop} {Q : FL → DS → Prop} {i j : Nat} {oi oj : Option AV} (O : Outs C env) (hfr : ∀ a ∈ frs C.A, C.s₀.heap.objs.size ≤ a)
    (hcx : nsIn (KK w) mainGlobals cx = some (some (.ref 51))) (hi : D.m[i]? = some (n, oi)) (hj : D.m[j]? = some (tg, oj)) (hij : i ≠ j)
    (hb : ∀ H, SV prog w C (EXm C D.m fun ball rs => ∃ rs₁, rs = rs₁ ++ [leR H] ∧ Qe ball rs₁) (execs body env) ⟨D.m, D.rs ++ [leR H]⟩ Q)
    (hx : ∀ e ball rs, Qe ball rs → (∃ x, ball = .d x) ∧ Q .next ⟨((D.m.set i (n, some (.v (.ref e)))).set j (tg, some ball)).set i (n, none), rs⟩)
    (hk : env.scope.kind = .function := by rfl) (hL : env.locals = C.L := by rfl) (hg : env.globals = mainGlobals := by rfl) (hcl : env.kindOf cx = some .globalImplicit := by rfl) (hnl : env.kindOf n = some .local := by rfl) (htl : env.kindOf tg = some .local := by rfl)
    (hcd : (cx == ("__debug__" : Str)) = false := by decide) (hnd : (n == ("__debug__" : Str)) = false := by decide)
    (hs : swapsWith (.Attribute (.Name n np) "ball" ap) (some (.Name tg tp)) as_.line env = pure false := by rfl)
    (he : eval (.Attribute (.Name n np) "ball" ap) env = (do
      let o ← eval (.Name n np) env
      standAt ap.atName
      let r ← holding [o] (getAttr o "ball" true)
      letTemporaryGo (.Name n np) o r
      pure r) := by with_unfolding_all rfl) :
    SV prog w C E (exec (.Try body [.ExceptHandler (some (.Name cx cp)) (some n) [.Assign [.Name tg tp] (.Attribute (.Name n np) "ball" ap) as_] hp] [] [] pos) env) D Q := fun s d => by
  have dl := d.le_
  refine wpAny_Try_except (wpAny_mono (hb s.heap s dl) (fun f s₁ p => ?_) (fun v s₁ x => ?_))
  · obtain ⟨n1, b, D₁, d₁, rf, q⟩ := p
    cases rf with
    | next => exact wpAny_execs_nil ⟨n1, .next, D₁, d₁, .next, q⟩
    | brk => exact ⟨n1, .brk, D₁, d₁, .brk, q⟩
    | cont => exact ⟨n1, .cont, D₁, d₁, .cont, q⟩
    | ret r => exact ⟨n1, _, D₁, d₁, .ret r, q⟩
  obtain ⟨e, da, v0, t, ball, _, rfl, dX, rs, rfl, q⟩ := x
  obtain ⟨⟨bx, hbx⟩, q⟩ := hx e ball rs q
  subst hbx
  have n1 : Nxt s s₁ := Nxt.of d.nxt dX.nxt (dX.regs (leR s.heap) (by simp))
  refine noteX dX O fun T h1 d1 => flightX d1.2 O (f := none) fun h2 d2 => ?_
  have dn : Den C ⟨D.m, exX e da v0 (.tr T .none) :: (dictR da [("ball", .d bx)] :: (rs ++ [leR s.heap]))⟩ { s₁ with heap := h2 } := Den.ofX d2.2 hfr
  have n2 : Nxt s { s₁ with heap := h2 } := n1.trans (d1.1.trans d2.1)
  clear d1 d2 dX
  generalize hS : ({ s₁ with heap := h2 } : Shared) = S at dn n2 ⊢
  clear hS
  refine wpAny_handleBy_cons (codeAny_handlers_test ?_) (by intro q; cases q)
  obtain ⟨mg, G⟩ := dn.bs.g
  refine Calls.Name_function_global hk hcl (Calls.loadGlobal_global (env := env) (by rw [hg]; exact G) (mg_of dn.K G hcx) ?_) hcd
  obtain ⟨he0, oT, ts, hT, hTc, hTd, h3⟩ := dn.regs _ (.head _)
  obtain ⟨es, nn, hda, hen⟩ := dn.regs (dictR da [("ball", .d bx)]) (.tail _ (.head _))
  have he1 : S.heap.get? e = some (excObj (some da) v0 (.ref T)) := he0
  have I : InstAt S.heap e (excObj (some da) v0 (.ref T)) 51 (some (dictOf es nn)) := ⟨he1, rfl, rfl, hda⟩
  refine (exm_one dn.K I.type (exm51 w)).here ?_
  rw [if_pos rfl]
  show codeAny _ _ _ _ _
  refine codeAny_handlers_suite_as ?_
  have hsz3 : 3 < ts.size := (Array.getElem?_eq_some_iff.mp h3).1
  refine wpAny_setFlight_none he1 rfl (by rfl) hT hTd hsz3 ?_
  have neT : e ≠ T := fun q => by
    have := (List.nodup_append.mp ((feet_cons _ _ ▸ (List.nodup_cons.mp dn.nodup).2 : ((exX e da v0 (.tr T .none)).foot ++ feet _).Nodup))).1
    subst q; simp [exX, TR.feet] at this
  have hdm := Obj.data_mapFields hTd (·.setIfInBounds 3 Value.none)
  have st4 := dn.upd (tk := S.toks) (i := 0) (r := exX e da v0 (.tr T .none)) (r' := exX e da v0 (.tr T .none)) rfl rfl (h' := S.heap.update T (Obj.mapFields (·.setIfInBounds 3 .none))) (fun a o q1 q2 => by
      have : a ≠ T := fun z => q1 (z ▸ .tail _ (.head _))
      rw [Heap.get?_update_other _ _ (Ne.symm this)]; exact q2) (Nat.le_of_eq (Heap.size_update ..).symm)
    ⟨by rw [Heap.get?_update_other _ _ (Ne.symm neT)]; exact he1, _, _, Heap.get?_update_self _ hT (Obj.isFreed_of_fields hdm), (Obj.cls_mapFields _ _).trans hTc, hdm, by simp [hsz3]⟩
  have n4 := n2.trans st4.1
  have d4 := st4.2
  rw [List.set_cons_zero] at d4
  clear st4 he0 hT hTc hTd h3 he1 I hda hen
  generalize hS : ({ S with heap := S.heap.update T (Obj.mapFields (·.setIfInBounds 3 .none)), toks := S.toks } : Shared) = S4 at d4 n4
  clear hS n2
  refine store_any d4 (.v (.ref e)) hi (fun h5 x5 => ?_) hL hk hnl
  have n5 := n4.trans x5.1
  have d5 := x5.2
  clear x5
  generalize hS : ({ S4 with heap := h5, toks := S4.toks + 1 } : Shared) = S5 at d5 n5 ⊢
  clear hS
  obtain ⟨he0, -⟩ := d5.regs _ (.head _)
  obtain ⟨es, nn, hda, hen⟩ := d5.regs (dictR da [("ball", .d bx)]) (.tail _ (.head _))
  have I : InstAt S5.heap e (excObj (some da) v0 (.ref T)) 51 (some (dictOf es nn)) := ⟨he0, rfl, rfl, hda⟩
  have z := hen.get "ball"
  have gf : getF "ball" [(("ball" : Str), AV.d bx)] = some (.d bx) := rfl
  rw [gf] at z
  obtain ⟨bv, z1, z2⟩ := z
  obtain ⟨mv, hn5, nd5, zz⟩ := d5.ns
  have ilt : i < D.m.length := (List.getElem?_eq_some_iff.mp hi).1
  obtain ⟨v5, g1, g2⟩ := zz n (.v (.ref e)) (List.mem_of_getElem? (i := i) (by rw [List.getElem?_set_self ilt]))
  obtain rfl := g2.v_
  refine wpAny_execs_cons (wpAny_Assign_Name (PyProof.Rows.Attribute_any_ (wpAny_Name (wpAny_loadName_local hk hnl (hL ▸ hn5) g1 (get_exc d5.K I (attr51 w es nn bv z1) (handed_rv z2 fun _ e => by cases e) ?_)) hnd) he) hs)
  have d5t := d5.toks (S5.toks + 1)
  have hj5 : (D.m.set i (n, some (.v (.ref e))))[j]? = some (tg, oj) := by rw [List.getElem?_set_ne hij]; exact hj
  refine store_any d5t z2 hj5 (fun h6 x6 => ?_) hL hk htl
  have n6 := (n5.trans (Nxt.toks S5 (S5.toks + 1))).trans x6.1
  have d6 := x6.2
  clear x6
  refine wpAny_execs_nil ?_
  show wpAny _ _ _ _ _ _
  obtain ⟨mv6, hn6, nd6, zz6⟩ := d6.ns
  refine wpAny_nameGoes_keeps hnl (hL ▸ hn6) (by rw [hk]; rfl) fun h7 v7 hn7 hs7 => ?_
  rw [hL] at hn7 hs7
  have fin := d6.locals (m := ((D.m.set i (n, some (.v (.ref e)))).set j (tg, some (.d bx))).set i (n, none)) (tk := S5.toks + 1 + 1 + 1) hs7 (by
    have le : Le _ h7 := le_same hs7 d6.ns.notTp
    refine ⟨_, hn7, ?_, fun y b hb => ?_⟩
    · have : (((D.m.set i (n, some (.v (.ref e)))).set j (tg, some (.d bx))).set i (n, none)).map (·.1) = ((D.m.set i (n, some (.v (.ref e)))).set j (tg, some (.d bx))).map (·.1) := by
        rw [List.map_set]
        apply List.ext_getElem?
        intro k
        rw [List.getElem?_set]
        split
        · rename_i q; subst q
          rw [List.getElem?_map, List.getElem?_set_ne (Ne.symm hij), List.getElem?_set_self ilt]
          simp [ilt]
        · rfl
      rw [this]; exact nd6
    · obtain ⟨k, hk'⟩ := List.mem_iff_getElem?.mp hb
      rw [List.getElem?_set] at hk'
      split at hk'
      · split at hk'
        · cases hk'
        · cases hk'
      · rename_i hne
        obtain ⟨u, u1, u2⟩ := zz6 y b (List.mem_of_getElem? hk')
        have hy : y ≠ n := fun q => hne (nodup_fst nd6 (i := i) (j := k) (p := (n, some (.v (.ref e)))) (by rw [List.getElem?_set_ne (Ne.symm hij), List.getElem?_set_self ilt]) hk' q.symm)
        exact ⟨u, by rw [if_neg hy]; exact u1, u2.le le⟩)
  have d8 := fin.2.sub (rs := rs) (.cons _ (.cons _ (List.sublist_append_left _ _)))
  exact ⟨n6.trans fin.1, .next, _, d8, .next, q⟩
end
end Mine
end
section
open PySem PySem.W
set_option maxRecDepth 100000
namespace Mine
section
variable {prog : Program} {w : World} {C : Cx w} {E : Value → Shared → Prop} {D : DS} {env : Env} {pos : Pos}
theorem o_addL {i j : Nat} {a b : Addr} {l m : List AV} {Q : AV → DS → Prop} (hi : D.rs[i]? = some (one prog w a (.list l))) (hj : D.rs[j]? = some (one prog w b (.list m))) (hz : l.length + m.length ≤ 10000)
    (h : ∀ c, Q (.v (.ref c)) ⟨D.m, D.rs ++ [one prog w c (.list (l ++ m))]⟩) : O2 prog w C E Rv (binaryOp .Add) (.v (.ref a)) (.v (.ref b)) D Q := fun s u v d r q => by
  obtain rfl := r.v_
  obtain rfl := q.v_
  obtain ⟨vs, ⟨n1, g1⟩, r1⟩ := d.listAt hi
  obtain ⟨us, ⟨n2, g2⟩, r2⟩ := d.listAt hj
  have z1 : vs.size = l.length := by have := r1.length; simpa using this
  have z2 : us.size = m.length := by have := r2.length; simpa using this
  refine concat_meets ⟨_, g1, rfl⟩ ⟨_, g2, rfl⟩ noFill_list_add seq_list_add PySem.F.slot_list_add PySem.F.entry_list_add (PySem.F.args_list_add_2 _ _) (PyProof.Rows.list_addW a b vs us n1 n2 none none #[] #[] (by rw [z1, z2, sizeLine_eq]; omega)) ⟨g1, g2, ?_⟩
  have st := d.new (one prog w s.heap.objs.size (.list (l ++ m))) (tk := s.toks) (push_keeps s.heap { cls := .type "list", data := .seq (vs ++ us) }) (push_size _ _)
    ⟨vs ++ us, 0, Heap.get?_push_size _ rfl, by rw [Array.toList_append]; exact (r1.le (.of_keeps (push_keeps _ _))).append (r2.le (.of_keeps (push_keeps _ _)))⟩ (by simp [one]) (by simp [one])
  exact .intro st (.v _) (h _)
theorem o_neB {a b : Bool} {Q : AV → DS → Prop} (h : Q (.d (.bool (a != b))) D) : O2 prog w C E Rv (compareOp .NotEq) (.d (.bool a)) (.d (.bool b)) D Q :=
  o_ne (by cases a <;> decide +kernel) (by cases b <;> decide +kernel) (by
    have e : (!(PyData.bool a).eqv (.bool b)) = (a != b) := by cases a <;> cases b <;> rfl
    rw [e]; exact h)
/-- a frame with no frames below -/
theorem outs_top {f : Addr} {fd : FuncData} {A : Around} (hA : A.frames = some []) (hC : C.A = A.deeper (callEnvC fd C.L f)) (hk : fd.scope.kind = .function) : Outs C (callEnvC fd C.L f) ∧ ∀ a ∈ frs C.A, C.s₀.heap.objs.size ≤ a := by
  have hfr : C.A.frames = some [callEnvC fd C.L f] := by rw [hC]; exact Around.frames_deeper hA
  have e : frs C.A = [C.L] := by unfold frs; rw [hfr]; rfl
  refine ⟨⟨⟨[], hfr, fun _ h => (nomatch h)⟩, rfl, by show fd.scope.kind ≠ .module; rw [hk]; exact fun e => (nomatch e), rfl, fun a ha => ?_, Nat.le_trans C.big C.hL⟩, fun a ha => ?_⟩
  · rw [e] at ha; exact .inl (List.mem_singleton.mp ha)
  · rw [e] at ha; rw [List.mem_singleton.mp ha]; exact C.hL
end
end Mine
end
section
open PySem PySem.W
set_option maxRecDepth 100000
namespace Mine
section
variable {prog : Program} {w : World} {C : Cx w} {D : DS} {env : Env} {pos : Pos} {E : Value → Shared → Prop}
theorem store_out {A : Around} {CL : Addr} {hc : C.s₀.heap.objs.size ≤ CL} {m mx : Lc} {rs : List Reg} {r : Reg} {j : Nat} {y : Str} {o : Option AV} {a : AV} {v : Value} {s : Shared} {Q : Unit → Shared → Prop}
    (d : Den (C.inn CL hc) ⟨mx, rs ++ [nsR prog w C.L m, r]⟩ s) (hv : Rv s.heap v a) (hj : m[j]? = some (y, o)) (hL : env.locals = C.L) (hk : env.scope.kind = .function) (hl : env.kindOf y = some .local)
    (h : ∀ h', Nxt s { s with heap := h', toks := s.toks + 1 } ∧ Den (C.inn CL hc) ⟨mx, rs ++ [nsR prog w C.L (m.set j (y, some a)), r]⟩ { s with heap := h', toks := s.toks + 1 } → Q () { s with heap := h', toks := s.toks + 1 }) :
    wpAny (model prog w) A (storeName env y v) Q E s := by
  have rN : RNs s.heap C.L m := d.regs (nsR prog w C.L m) (by simp)
  obtain ⟨mv, hn, nd, z⟩ := id rN
  refine wpAny_storeName_local hl (hL ▸ hn) (fun h' hn' hs => ?_) (by rw [hk]; rfl)
  rw [hL] at hn' hs
  have le : Le s.heap h' := le_same hs rN.notTp
  have e1 : (DS.rs ⟨mx, rs ++ [nsR prog w C.L m, r]⟩)[rs.length]? = some (nsR prog w C.L m) := by simp
  have st := d.upd (i := rs.length) (r' := nsR prog w C.L (m.set j (y, some a))) (tk := s.toks + 1) e1 rfl (h' := h') (fun b o q e => (hs.2 b (by simpa [one] using q)).trans e) (Nat.le_of_eq hs.1.symm)
    (rN.put hj le _ hn' (hv.le le) fun mv' hm' y => by
      obtain ⟨o1, es1, ep1, a1, a2, _, a3⟩ := hn
      obtain ⟨o2, es2, ep2, b1, b2, _, b3⟩ := hm'
      rw [a1] at b1; cases b1
      rw [a2] at b2; cases b2
      rw [← a3, b3])
  have e2 : (rs ++ [nsR prog w C.L m, r]).set rs.length (nsR prog w C.L (m.set j (y, some a))) = rs ++ [nsR prog w C.L (m.set j (y, some a)), r] := by simp
  have st2 := st.2
  rw [show (DS.rs ⟨mx, rs ++ [nsR prog w C.L m, r]⟩).set rs.length (nsR prog w C.L (m.set j (y, some a))) = rs ++ [nsR prog w C.L (m.set j (y, some a)), r] from e2] at st2
  exact h h' ⟨st.1, st2⟩
theorem s_assignLC {elt iter : Expr} {x y : Str} {px py cpos : Pos} {ifs : List Expr} {scope : Scope} {j : Nat} (cl : List (Str × Addr)) {Q : FL → DS → Prop} (hclos : closureFor scope env = pure cl) (hcell : ∀ y ∈ scope.names, y.2 ≠ .cell)
    (hkind : scope.kind = .function) (hnames : ∀ y ∈ scope.names, y.2 = .local → scope.names.lookup y.1 = some .local) (hx : scope.names.lookup x = some .local)
    (h : EV prog w C E (eval iter env) D (CompK prog w C elt x ifs scope cl env (CompA prog w j y (Q .next))))
    (hs : ∀ x, foldedSetIterable iter env x = pure x := by intro _; rfl) (hsw : swapsWith (.ListComp elt [⟨.Name x px, iter, ifs, 0⟩] scope cpos) (some (.Name y py)) pos.line env = pure true := by rfl) (hL : env.locals = C.L := by rfl) (hkf : env.scope.kind = .function := by rfl) (hl : env.kindOf y = some .local := by rfl) :
    SV prog w C E (exec (.Assign [.Name y py] (.ListComp elt [⟨.Name x px, iter, ifs, 0⟩] scope cpos) pos) env) D Q := fun s d => by
  rw [exec_Assign_Name_used _ _ _ _ hsw]
  refine wpAny_bind (wpAny_standAt (wpAny_bind ?_))
  show wpAny _ _ (do let _ ← comprehension (.ListComp elt [⟨.Name x px, iter, ifs, 0⟩] scope cpos) scope env _ (newList []) false (eval iter env) (some (assign (.Name y py) env))) _ _ s
  refine wpAny_bind (wpAny_mono (lc_core (use := some (assign (.Name y py) env)) (P := fun _ s' => Po C RF Q s .next s') cl hclos hcell hkind hnames hx d (h.mono fun xa D₁ q => ?_) hs) (fun _ s' hq => wpAny_pure (wpAny_pure hq)) fun _ _ e => e)
  obtain ⟨a, l, i, e, hi, hz, J, h0, hm, step, ⟨oy, hoy⟩, hQ⟩ := q
  refine ⟨a, l, i, e, hi, hz, J, h0, hm, step, fun CL Dl hC ys rs s' fl hJ hyl nn d5 => ?_⟩
  show wpAny _ _ (assign (.Name y py) env (.ref Dl)) _ _ s'
  refine wpAny_assign_Name (store_out d5 (.v _) hoy hL hkf hl fun h6 st => ?_)
  obtain ⟨mv, hmv, _⟩ := st.2.ns
  refine ⟨mv, hmv, fun h' hs' => ?_⟩
  have so := Den.out (prog := prog) (tk := s'.toks + 1) st.2 hs'
  exact ⟨nn.trans (st.1.trans so.1), .next, _, so.2, .next, hQ _ ys rs hJ hyl⟩
inductive CompI (prog : Program) (w : World) (C : Cx w) (elt : Expr) (x₁ x₂ : Str) (scope : Scope) (cl : List (Str × Addr)) (env : Env) (j : Nat) (y : Str) (Q : DS → Prop) (ia : AV) (D₂ : DS) : Prop
  | mk (I a : Addr) (mo : MO) (ep : Nat) (kvs : List (AV × AV)) (rs₀ : List Reg) (e : ia = .v (.ref I)) (t0 : ∀ s, Den C D₂ s → Den C ⟨D₂.m, rs₀ ++ [itemR I a 0 kvs.length ep]⟩ s) (hz : kvs.length ≤ 1000)
      (J : Nat → List AV → List Reg → Prop) (h0 : J 0 [] rs₀) (hm : ∀ k ys rs, J k ys rs → pinR prog w a mo ep kvs ∈ rs)
      (step : ∀ (CL Dl : Addr) (hC : C.s₀.heap.objs.size ≤ CL) (k : Nat) (p : AV × AV) (ys : List AV) (rs : List Reg), kvs[k]? = some p → J k ys rs →
        EV prog w (C.inn CL hC) (fun _ _ => False) (eval elt (compEnvC scope cl CL env)) ⟨[(x₁, some p.1), (x₂, some p.2)], inRsI prog C D₂.m rs I a Dl (k + 1) kvs.length ep ys⟩
          (StepZ prog w C CL hC [(x₁, none), (x₂, none)] (fun rs' => inRsI prog C D₂.m rs' I a Dl (k + 1) kvs.length ep ys) (J (k + 1)) ys))
      (hy : ∃ o, D₂.m[j]? = some (y, o)) (q : ∀ Dl ys rs, J kvs.length ys rs → Q ⟨D₂.m.set j (y, some (.v (.ref Dl))), rs ++ [one prog w Dl (.list ys)]⟩) : CompI prog w C elt x₁ x₂ scope cl env j y Q ia D₂
theorem s_assignLCI {elt iter : Expr} {x₁ x₂ y : Str} {p₁ p₂ tp py cpos : Pos} {kk j : Nat} {scope : Scope} (cl : List (Str × Addr)) {Q : FL → DS → Prop} (hclos : closureFor scope env = pure cl) (hcell : ∀ y ∈ scope.names, y.2 ≠ .cell)
    (hkind : scope.kind = .function) (hnames : ∀ y ∈ scope.names, y.2 = .local → scope.names.lookup y.1 = some .local) (hx₁ : scope.names.lookup x₁ = some .local) (hx₂ : scope.names.lookup x₂ = some .local) (hne : x₁ ≠ x₂)
    (h : EV prog w C E (eval iter env) D (P1 prog w C E Rv pyIter (CompI prog w C elt x₁ x₂ scope cl env j y (Q .next))))
    (hs : ∀ x, foldedSetIterable iter env x = pure x := by intro _; rfl) (hsw : swapsWith (.ListComp elt [⟨.Tuple [.Name x₁ p₁, .Name x₂ p₂] kk tp, iter, [], 0⟩] scope cpos) (some (.Name y py)) pos.line env = pure true := by rfl) (hL : env.locals = C.L := by rfl) (hkf : env.scope.kind = .function := by rfl) (hl : env.kindOf y = some .local := by rfl) :
    SV prog w C E (exec (.Assign [.Name y py] (.ListComp elt [⟨.Tuple [.Name x₁ p₁, .Name x₂ p₂] kk tp, iter, [], 0⟩] scope cpos) pos) env) D Q := fun s d => by
  rw [exec_Assign_Name_used _ _ _ _ hsw]
  refine wpAny_bind (wpAny_standAt (wpAny_bind ?_))
  show wpAny _ _ (do let _ ← comprehension (.ListComp elt [⟨.Tuple [.Name x₁ p₁, .Name x₂ p₂] kk tp, iter, [], 0⟩] scope cpos) scope env _ (newList []) false (eval iter env) (some (assign (.Name y py) env))) _ _ s
  refine wpAny_bind (wpAny_mono (wpAny_comprehension_free (use := some (assign (.Name y py) env)) (Q := fun _ s' => Po C RF Q s .next s') rfl hs hclos hkind hnames (wpAny_mono (h s d) (fun xv s₁ p => ?_) fun _ _ e => e)) (fun _ s' hq => wpAny_pure (wpAny_pure hq)) fun _ _ e => e)
  obtain ⟨n1, xa, D₁, d₁, r₁, h⟩ := p
  refine wpAny_mono (h s₁ xv d₁ r₁) (fun it s₂ p => ?_) fun _ _ e => e
  obtain ⟨n2, _, D₂, d₂, r₂, I, a, mo, ep, kvs, rs₀, rfl, t0, hz, J, h0, hmem, step, ⟨oy, hoy⟩, hQ⟩ := p
  obtain rfl := r₂.v_
  have d₂ := t0 _ d₂
  have n12 := n1.trans n2
  refine wpAny_newObj_type (wpAny_newFunctionEnv hcell (by intro y hy; simp at hy) (fun h₁ hns₁ hsb₁ => ?_) hkind)
  dsimp only at hns₁ hsb₁ ⊢
  generalize hH2 : s₂.heap.push { cls := .type "list", dict := none, data := .seq ([] : List Value).toArray } = H2 at hns₁ hsb₁ ⊢
  have hCz : H2.objs.size = s₂.heap.objs.size + 1 := by rw [← hH2, Heap.size_push]
  have hcl' : s₂.heap.objs.size ≤ H2.objs.size := by rw [hCz]; exact Nat.le_succ _
  have ne1 : H2.objs.size ≠ s₂.heap.objs.size := by rw [hCz]; exact Nat.ne_of_gt (Nat.lt_succ_self _)
  have hk : ∀ b o, s₂.heap.get? b = some o → h₁.get? b = some o := fun b o e =>
    hsb₁.extBut b o (fun z => by have := Heap.lt_size e; rw [z, hCz] at this; exact absurd this (Nat.not_lt.mpr (Nat.le_succ _))) (push_keeps _ _ _ _ (hH2 ▸ push_keeps _ _ _ _ e))
  have hacc : (one prog w s₂.heap.objs.size (.list [])).P h₁ := ⟨#[], 0, hsb₁.extBut _ _ (Ne.symm ne1) (push_keeps _ _ _ _ (hH2 ▸ Heap.get?_push_size _ rfl)), .nil⟩
  have hC : C.s₀.heap.objs.size ≤ H2.objs.size := Nat.le_trans d₂.size hcl'
  have st := d₂.inn (prog := prog) (r := one prog w s₂.heap.objs.size (.list [])) (tk := s₂.toks + ([] : List (Str × Value)).length) (CL := H2.objs.size) (mx := [(x₁, none), (x₂, none)]) hk hacc (by simp [one]) (by simp [one]) hcl' (by simp [one, ne1])
    ⟨_, hns₁, by simp [hne], fun y av hm => by simp at hm⟩
  obtain ⟨n3, d₃⟩ := st
  generalize hs4 : ({ s₂ with heap := h₁, toks := s₂.toks + ([] : List (Str × Value)).length } : Shared) = s₄ at n3 d₃ ⊢
  have nk := n12.trans n3
  have loop : codeAny (model prog w) C.A (.compLoop (.ListComp elt [⟨.Tuple [.Name x₁ p₁, .Name x₂ p₂] kk tp, iter, [], 0⟩] scope cpos) 0 (.ref I) (.ref s₂.heap.objs.size) (compEnvC scope cl H2.objs.size env))
      (compPost (model prog w) C.A E (some (assign (.Name y py) env)) (fun _ s' => Po C RF Q s .next s') (.ref s₂.heap.objs.size) H2.objs.size) s₄ := by
    refine PyProof.Rows.LCp.codeAny_compLoop_pair (CI (C.inn H2.objs.size hC) kvs.length [(x₁, none), (x₂, none)] (fun k ys rs => inRsI prog C D₂.m rs I a s₂.heap.objs.size k kvs.length ep ys) J s) ?_ (kvs.length + 1)
      ⟨0, [], rs₀, rfl, Nat.zero_le _, Nat.le_refl _, nk, d₃, h0⟩
    rintro n s' ⟨k, ys, rs, rfl, hkl, hyl, nn, dd, hJ⟩
    have hgi : (inRsI prog C D₂.m rs I a s₂.heap.objs.size k kvs.length ep ys)[rs.length]? = some (itemR I a k kvs.length ep) := by simp
    refine wpAny_mono (itemTurn (prog := prog) (C := C.inn H2.objs.size hC) (E := fun _ _ => False) (elts := [.Name x₁ p₁, .Name x₂ p₂]) (kk := kk) (tp := tp) dd (List.mem_append_left _ (List.mem_append_left _ (hmem _ _ _ hJ))) hgi) (fun v s₅ p => ?_) fun _ _ e => e.elim
    cases v with
    | none =>
      obtain ⟨hn, n5, d₅⟩ := p
      have e5 : (inRsI prog C D₂.m rs I a s₂.heap.objs.size k kvs.length ep ys).eraseIdx rs.length = rs ++ [nsR prog w C.L D₂.m, one prog w s₂.heap.objs.size (.list ys)] := by simp [inRsI, List.eraseIdx_append_of_length_le]
      have d5 : Den (C.inn H2.objs.size hC) ⟨[(x₁, none), (x₂, none)], rs ++ [nsR prog w C.L D₂.m, one prog w s₂.heap.objs.size (.list ys)]⟩ s₅ := by rw [← e5]; exact d₅
      have hke : k = kvs.length := Nat.le_antisymm hkl (List.getElem?_eq_none_iff.mp hn)
      subst hke
      show wpAny _ _ (assign (.Name y py) env (.ref s₂.heap.objs.size)) _ _ s₅
      refine wpAny_assign_Name (store_out d5 (.v _) hoy hL hkf hl fun h6 st => ?_)
      obtain ⟨mv, hmv, _⟩ := st.2.ns
      refine ⟨mv, hmv, fun h' hs' => ?_⟩
      have so := Den.out (prog := prog) (tk := s₅.toks + 1) st.2 hs'
      exact ⟨nn.trans (n5.trans (st.1.trans so.1)), .next, _, so.2, .next, hQ _ ys rs hJ⟩
    | some v =>
      obtain ⟨p, hp, q⟩ := p
      have hlt : k < kvs.length := (List.getElem?_eq_some_iff.mp hp).1
      refine wpAny_mono q (fun _ s₆ q => ?_) fun _ _ e => e.elim
      obtain ⟨n5, r₅, d₅⟩ := q
      have e5 : (inRsI prog C D₂.m rs I a s₂.heap.objs.size k kvs.length ep ys).set rs.length (itemR I a (k + 1) kvs.length ep) = inRsI prog C D₂.m rs I a s₂.heap.objs.size (k + 1) kvs.length ep ys := by simp [inRsI]
      have d₅ : Den (C.inn H2.objs.size hC) ⟨[(x₁, none), (x₂, none)], inRsI prog C D₂.m rs I a s₂.heap.objs.size (k + 1) kvs.length ep ys⟩ s₆ := by rw [← e5]; exact d₅
      have A1 : wpAny (model prog w) C.A (assign (.Tuple [.Name x₁ p₁, .Name x₂ p₂] kk tp) (compEnvC scope cl H2.objs.size env) v) (fun _ s₇ => Nxt s₆ s₇ ∧ Den (C.inn H2.objs.size hC) ⟨[(x₁, some p.1), (x₂, some p.2)], inRsI prog C D₂.m rs I a s₂.heap.objs.size (k + 1) kvs.length ep ys⟩ s₇) (fun _ _ => False) s₆ := by
        refine wpAny_mono (as_tup (C := C.inn H2.objs.size hC) (E := fun _ _ => False) (env := compEnvC scope cl H2.objs.size env) (elts := [.Name x₁ p₁, .Name x₂ p₂]) (k := kk) (p := tp) (l := [p.1, p.2]) (D := ⟨[(x₁, none), (x₂, none)], inRsI prog C D₂.m rs I a s₂.heap.objs.size (k + 1) kvs.length ep ys⟩)
          (Q := fun D' => D' = ⟨[(x₁, some p.1), (x₂, some p.2)], inRsI prog C D₂.m rs I a s₂.heap.objs.size (k + 1) kvs.length ep ys⟩)
          (al_cons (as_name (i := 0) (x := x₁) (o := none) (by rfl) (al_cons (as_name (i := 1) (x := x₂) (o := none) (by rfl) (al_nil rfl) rfl hkind (show Env.kindOf (compEnvC scope cl H2.objs.size env) x₂ = some .local from lookup_relabel_local (env := env) hx₂)))
            rfl hkind (show Env.kindOf (compEnvC scope cl H2.objs.size env) x₁ = some .local from lookup_relabel_local (env := env) hx₁))) (by rfl) (by rfl) s₆ v d₅ r₅) (fun _ s₇ q => ?_) fun _ _ e => e
        obtain ⟨n6, _, D₆, d₆, _, rfl⟩ := q
        exact ⟨n6, d₆⟩
      refine wpAny_mono A1 (fun _ s₇ q => ?_) fun _ _ e => e.elim
      obtain ⟨n6, d₆⟩ := q
      refine wpAny_mono (step H2.objs.size s₂.heap.objs.size hC k p ys rs hp hJ s₇ d₆) (fun zv s₈ q => ?_) fun _ _ e => e.elim
      obtain ⟨n8, z, D₈, d₈, r₈, rs', t, j⟩ := q
      have d₈' := t _ d₈
      refine wpAny_mono (ol_append (C := C.inn H2.objs.size hC) (E := fun _ _ => False) (D := ⟨[(x₁, none), (x₂, none)], inRsI prog C D₂.m rs' I a s₂.heap.objs.size (k + 1) kvs.length ep ys⟩) (i := rs'.length + 2) (a := s₂.heap.objs.size) (l := ys) (x := z)
        (Q := fun _ D' => D' = ⟨[(x₁, none), (x₂, none)], inRsI prog C D₂.m rs' I a s₂.heap.objs.size (k + 1) kvs.length ep (ys ++ [z])⟩) (by simp) (by omega) (by simp [inRsI]) s₈ [.ref s₂.heap.objs.size, zv] d₈' (.cons (.v _) (.cons r₈ .nil))) (fun _ s₉ p => ?_) fun _ _ e => e.elim
      obtain ⟨n9, _, _, d₉, _, rfl⟩ := p
      exact ⟨kvs.length + 1 - (k + 1), by omega, k + 1, ys ++ [z], rs', rfl, hlt, by simp; omega, nn.trans (n5.trans (n6.trans (n8.trans n9))), d₉, j⟩
  refine codeAny_compStart_list loop ?_
  obtain ⟨o, ho, ok, ov, rfl⟩ := d₃.regs (itemR I a 0 kvs.length ep) (by simp)
  exact pyIter_item ho rfl loop
end
end Mine
end
section
open PySem PySem.W
set_option maxRecDepth 100000
namespace Mine
section
variable {K V : Type} [DecidableEq K]
theorem at_mem {l : List (K × V)} (nd : (l.map (·.1)).Nodup) {k : K} {v : V} : at_ l k = some v ↔ (k, v) ∈ l := by
  unfold at_
  induction l with
  | nil => simp
  | cons x l ih =>
    rw [List.map_cons, List.nodup_cons] at nd
    rw [List.find?_cons]
    by_cases e : x.1 = k
    · simp only [e, decide_true, Option.map_some, Option.some.injEq, List.mem_cons]
      constructor
      · intro h; exact .inl (Prod.ext e.symm h.symm)
      · rintro (h | h)
        · rw [← h]
        · exact absurd (List.mem_map.mpr ⟨_, h, rfl⟩) (by rw [← e]; exact nd.1)
    · simp only [e, decide_false, List.mem_cons]
      rw [ih nd.2]
      constructor
      · exact .inr
      · rintro (h | h)
        · exact absurd (by rw [← h]) e
        · exact h
theorem at_none {l : List (K × V)} {k : K} : at_ l k = none ↔ k ∉ l.map (·.1) := by
  unfold at_
  rw [Option.map_eq_none_iff, List.find?_eq_none]
  constructor
  · intro h m
    obtain ⟨x, hx, rfl⟩ := List.mem_map.mp m
    exact absurd (by simp) (h x hx)
  · intro h x hx e
    have : x.1 = k := by simpa using e
    exact h (List.mem_map.mpr ⟨x, hx, this⟩)
theorem at_perm {l m : List (K × V)} (nd : (l.map (·.1)).Nodup) (p : l.Perm m) (k : K) : at_ l k = at_ m k := by
  have nd' : (m.map (·.1)).Nodup := (p.map _).nodup_iff.mp nd
  cases q : at_ m k with
  | some v => exact (at_mem nd).mpr (p.symm.subset ((at_mem nd').mp q))
  | none => rw [at_none] at q ⊢; exact fun h => q ((p.map _).subset h)
theorem del_keys (l : List (K × V)) (k : K) : k ∉ (del_ l k).map (·.1) := by
  unfold del_
  intro h
  obtain ⟨x, hx, e⟩ := List.mem_map.mp h
  have := (List.mem_filter.mp hx).2
  simp at this
  exact this e
theorem del_sub (l : List (K × V)) (k : K) : (del_ l k).Sublist l := List.filter_sublist
theorem del_nodup {l : List (K × V)} (nd : (l.map (·.1)).Nodup) (k : K) : ((del_ l k).map (·.1)).Nodup := ((del_sub l k).map _).nodup nd
theorem put_new {l : List (K × V)} {k : K} (h : at_ l k = none) (v : V) : put_ l k v = l ++ [(k, v)] := by unfold put_; rw [h]; rfl
theorem put_perm {l : List (K × V)} (nd : (l.map (·.1)).Nodup) (k : K) (v : V) : (put_ l k v).Perm ((k, v) :: del_ l k) := by
  cases q : at_ l k with
  | none =>
    rw [put_new q, del_none q]
    exact List.perm_append_comm
  | some b =>
    unfold put_
    rw [q]
    simp only [Option.isSome_some, if_true]
    have hm : k ∈ l.map (·.1) := by
      by_cases h : k ∈ l.map (·.1)
      · exact h
      · rw [at_none.mpr h] at q; cases q
    clear q b
    unfold del_
    induction l with
    | nil => simp at hm
    | cons x l ih =>
      rw [List.map_cons, List.nodup_cons] at nd
      rw [List.map_cons, List.filter_cons]
      by_cases e : x.1 = k
      · have hk : k ∉ l.map (·.1) := e ▸ nd.1
        simp only [e, if_true, ne_eq, not_true, decide_false, Bool.false_eq_true, if_false]
        have h1 : (l.map fun x => if x.1 = k then (x.1, v) else x) = l := by
          conv => rhs; rw [← List.map_id l]
          apply List.map_congr_left
          intro y hy
          have : ¬ y.1 = k := fun e => hk (e ▸ List.mem_map.mpr ⟨y, hy, rfl⟩)
          rw [if_neg this]; rfl
        have h2 : (l.filter fun x => decide (¬ x.1 = k)) = l := by
          rw [List.filter_eq_self]
          intro y hy
          simp only [decide_not, Bool.not_eq_true', decide_eq_false_iff_not]
          exact fun e => hk (e ▸ List.mem_map.mpr ⟨y, hy, rfl⟩)
        rw [h1, h2]
      · have hm' : k ∈ l.map (·.1) := by
          rw [List.map_cons] at hm
          rcases List.mem_cons.mp hm with h | h
          · exact absurd h.symm e
          · exact h
        simp only [e, if_false, ne_eq, not_false_eq_true, decide_true, if_true]
        exact ((ih nd.2 hm').cons x).trans (List.Perm.swap _ _ _)
theorem put_nodup {l : List (K × V)} (nd : (l.map (·.1)).Nodup) (k : K) (v : V) : ((put_ l k v).map (·.1)).Nodup := by
  refine ((put_perm nd k v).map _).nodup_iff.mpr ?_
  rw [List.map_cons, List.nodup_cons]
  exact ⟨del_keys l k, del_nodup nd k⟩
end
end Mine
end
section
open PySem PySem.W
set_option maxRecDepth 100000
namespace Mine
/-- a place's number -/
noncomputable def clsN (k : Nat) : Str := if k = 0 then "prefix" else if k = 1 then "infix" else "postfix"
theorem class_fix (tt : Str) : (lawClass tt = "" ∧ fixD tt = .none) ∨ ∃ k, k < 3 ∧ lawClass tt = clsN k ∧ fixD tt = .str (clsN k) ∧ selT tt = k := by
  have key : (lawClass tt = "" ∧ fixD tt = .none) ∨ ∃ k, k < 3 ∧ lawClass tt = clsN k ∧ fixD tt = .str (clsN k) := by
    unfold lawClass fixD
    by_cases h1 : (["fx", "fy"] : List Str).any (· == tt) = true
    · rw [if_pos h1, if_pos h1]; exact .inr ⟨0, by decide, rfl, rfl⟩
    rw [if_neg h1, if_neg h1]
    by_cases h2 : (["xf", "yf"] : List Str).any (· == tt) = true
    · have h3 : ¬ (["xfx", "xfy", "yfx"] : List Str).any (· == tt) = true := by
        simp only [List.any_cons, List.any_nil, Bool.or_false, Bool.or_eq_true, beq_iff_eq] at h2 ⊢
        rcases h2 with rfl | rfl <;> decide
      rw [if_pos h2, if_neg h3, if_pos h2]; exact .inr ⟨2, by decide, rfl, rfl⟩
    rw [if_neg h2]
    by_cases h3 : (["xfx", "xfy", "yfx"] : List Str).any (· == tt) = true
    · rw [if_pos h3, if_pos h3]; exact .inr ⟨1, by decide, rfl, rfl⟩
    · rw [if_neg h3, if_neg h3, if_neg h2]; exact .inl ⟨rfl, rfl⟩
  rcases key with h | ⟨k, hk, h1, h2⟩
  · exact .inl h
  · refine .inr ⟨k, hk, h1, h2, ?_⟩
    unfold selT isKind
    rw [h2]
    match k, hk with
    | 0, _ => rfl
    | 1, _ => rfl
    | 2, _ => rfl
theorem isKind_cls {tt : Str} {k j : Nat} (hk : k < 3) (hj : j < 3) (h : fixD tt = .str (clsN k)) : isKind tt (clsN j) = decide (k = j) := by
  unfold isKind
  rw [h]
  match k, hk, j, hj with
  | 0, _, 0, _ => rfl
  | 0, _, 1, _ => rfl
  | 0, _, 2, _ => rfl
  | 1, _, 0, _ => rfl
  | 1, _, 1, _ => rfl
  | 1, _, 2, _ => rfl
  | 2, _, 0, _ => rfl
  | 2, _, 1, _ => rfl
  | 2, _, 2, _ => rfl
theorem clsN_inj {k j : Nat} (hk : k < 3) (hj : j < 3) (h : clsN k = clsN j) : k = j := by
  match k, hk, j, hj, h with
  | 0, _, 0, _, _ => rfl
  | 1, _, 1, _, _ => rfl
  | 2, _, 2, _, _ => rfl
  | 0, _, 1, _, h => exact absurd h (by decide)
  | 0, _, 2, _, h => exact absurd h (by decide)
  | 1, _, 0, _, h => exact absurd h (by decide)
  | 1, _, 2, _, h => exact absurd h (by decide)
  | 2, _, 0, _, h => exact absurd h (by decide)
  | 2, _, 1, _, h => exact absurd h (by decide)
noncomputable def ent (T : List Str) (c : Str) (kv : Int × (Int × Str)) : (Str × Str) × (Int × Str) := ((c, T.getD kv.1.toNat ""), kv.2)
/-- a table, as the model has it -/
noncomputable def mdT (T : List Str) (O : Ops) (k : Nat) : Md := (O.get k).map (ent T (clsN k))
noncomputable def mdOf (T : List Str) (O : Ops) : Md := mdT T O 0 ++ mdT T O 1 ++ mdT T O 2
noncomputable def PN : List Str := [":-", "?-", "dynamic", "discontiguous", "\\+", "-", "+", "\\", "~", "op", ";", "mod", "=", "is", "xyx", "f", "yfy", "fxf", "|"]
noncomputable def IN : List Str := ([":-", "-->", ";", "|", "->", "=", "\\=", "==", "\\==", "@<", "@=<", "@>", "@>=", "=..", "is", "=:=", "=\\=", "<", "=<", ">", ">="] : List Str) ++ (["+", "-", "/\\", "\\/", "*", "/", "//", "rem", "mod", "div", "<<", ">>", "**", "^", ",", "~", "op", "xyx", "f", "yfy", "fxf"] : List Str)
noncomputable def NL (k : Nat) : List Str := if k = 0 then PN else IN
structure TbOk (T L : List Str) (t : Tb) : Prop where
  nd : (t.map (·.1)).Nodup
  ok : ∀ kv ∈ t, 0 ≤ kv.1 ∧ ∃ x, T[kv.1.toNat]? = some x ∧ x ∈ L
structure Rel (T : List Str) (O : Ops) (M : Md) : Prop where
  tb : ∀ k < 3, TbOk T (NL k) (O.get k)
  dis : ∀ a ∈ O.I.map (·.1), a ∉ O.Q.map (·.1)
  com : (7 : Int) ∈ O.I.map (·.1)
  md : M.Perm (mdOf T O)
section
variable {T : List Str} {O : Ops} {M : Md} {L : List Str} {t : Tb}
theorem TbOk.text (h : TbOk T L t) {kv : Int × (Int × Str)} (hkv : kv ∈ t) : ∃ x, T[kv.1.toNat]? = some x ∧ T.getD kv.1.toNat "" = x ∧ x ∈ L ∧ 0 ≤ kv.1 := by
  obtain ⟨h1, x, h2, h3⟩ := h.ok kv hkv
  exact ⟨x, h2, by simp [h2], h3, h1⟩
theorem nodup_ix (nd : T.Nodup) {i j : Nat} {x : Str} (h1 : T[i]? = some x) (h2 : T[j]? = some x) : i = j := (ix_of_get nd h1).symm.trans (ix_of_get nd h2)
theorem TbOk.eq_key (h : TbOk T L t) (nd : T.Nodup) {kv : Int × (Int × Str)} (hkv : kv ∈ t) {n : Nat} {x : Str} (hx : T[n]? = some x) : T.getD kv.1.toNat "" = x ↔ kv.1 = n := by
  obtain ⟨y, h1, h2, _, h4⟩ := h.text hkv
  rw [h2]
  constructor
  · rintro rfl
    have := nodup_ix nd h1 hx
    omega
  · intro e
    have : kv.1.toNat = n := by omega
    rw [this, hx] at h1
    exact (Option.some.inj h1).symm
theorem mdT_keys (T : List Str) (O : Ops) (k : Nat) : (mdT T O k).map (·.1) = (O.get k).map fun kv => (clsN k, T.getD kv.1.toNat "") := by
  unfold mdT; rw [List.map_map]; rfl
theorem TbOk.texts_nodup (h : TbOk T L t) (nd : T.Nodup) : (t.map fun kv => T.getD kv.1.toNat "").Nodup := by
  have hn := h.nd
  rw [List.nodup_iff_pairwise_ne, List.pairwise_map] at hn ⊢
  refine hn.imp_of_mem fun {a b} ha hb ne e => ?_
  obtain ⟨x, h1, h2, _, h4⟩ := h.text hb
  rw [h2] at e
  have := (h.eq_key nd ha h1).mp e
  omega
theorem mdT_nodup (h : TbOk T L (O.get k)) (nd : T.Nodup) : ((mdT T O k).map (·.1)).Nodup := by
  rw [mdT_keys]
  have := h.texts_nodup nd
  rw [List.nodup_iff_pairwise_ne, List.pairwise_map] at this ⊢
  exact this.imp fun {a b} ne e => ne (Prod.ext_iff.mp e).2
theorem mdT_class {k : Nat} {x : (Str × Str) × (Int × Str)} (h : x ∈ mdT T O k) : x.1.1 = clsN k := by
  obtain ⟨kv, _, rfl⟩ := List.mem_map.mp h
  rfl
theorem mdOf_nodup (h : ∀ k < 3, TbOk T (NL k) (O.get k)) (nd : T.Nodup) : ((mdOf T O).map (·.1)).Nodup := by
  unfold mdOf
  have cl : ∀ {k j : Nat}, k < 3 → j < 3 → k ≠ j → ∀ a ∈ (mdT T O k).map (·.1), ∀ b ∈ (mdT T O j).map (·.1), a ≠ b := by
    intro k j hk hj hkj a ha b hb e
    obtain ⟨x, hx, rfl⟩ := List.mem_map.mp ha
    obtain ⟨y, hy, rfl⟩ := List.mem_map.mp hb
    exact hkj (clsN_inj hk hj ((mdT_class hx).symm.trans ((congrArg Prod.fst e).trans (mdT_class hy))))
  rw [List.map_append, List.map_append, List.nodup_append, List.nodup_append]
  refine ⟨⟨mdT_nodup (h 0 (by decide)) nd, mdT_nodup (h 1 (by decide)) nd, cl (by decide) (by decide) (by decide)⟩, mdT_nodup (h 2 (by decide)) nd, fun a ha b hb => ?_⟩
  rcases List.mem_append.mp ha with ha | ha
  · exact cl (k := 0) (j := 2) (by decide) (by decide) (by decide) a ha b hb
  · exact cl (k := 1) (j := 2) (by decide) (by decide) (by decide) a ha b hb
theorem Rel.nd (R : Rel T O M) (nd : T.Nodup) : (M.map (·.1)).Nodup := (R.md.map _).nodup_iff.mpr (mdOf_nodup R.tb nd)
theorem mem_mdOf {k : Nat} (hk : k < 3) {x : (Str × Str) × (Int × Str)} : x ∈ mdOf T O ∧ x.1.1 = clsN k ↔ x ∈ mdT T O k := by
  constructor
  · rintro ⟨h, e⟩
    unfold mdOf at h
    rcases List.mem_append.mp h with h | h
    · rcases List.mem_append.mp h with h | h
      · rw [← clsN_inj (by decide) hk ((mdT_class h).symm.trans e)]; exact h
      · rw [← clsN_inj (by decide) hk ((mdT_class h).symm.trans e)]; exact h
    · rw [← clsN_inj (by decide) hk ((mdT_class h).symm.trans e)]; exact h
  · intro h
    refine ⟨?_, mdT_class h⟩
    unfold mdOf
    match k, hk, h with
    | 0, _, h => exact List.mem_append_left _ (List.mem_append_left _ h)
    | 1, _, h => exact List.mem_append_left _ (List.mem_append_right _ h)
    | 2, _, h => exact List.mem_append_right _ h
/-- an entry of the model is the table's -/
theorem Rel.at (R : Rel T O M) (nd : T.Nodup) {k : Nat} (hk : k < 3) {n : Nat} {x : Str} (hx : T[n]? = some x) : at_ M (clsN k, x) = at_ (O.get k) (n : Int) := by
  have hM := R.nd nd
  have ht := R.tb k hk
  cases q : at_ (O.get k) (n : Int) with
  | some e =>
    have h1 := (at_mem ht.nd).mp q
    refine (at_mem hM).mpr (R.md.symm.subset ((mem_mdOf hk).mpr ?_).1)
    exact List.mem_map.mpr ⟨_, h1, by
      show ((clsN k, T.getD ((n : Int)).toNat ""), e) = _
      rw [show T.getD ((n : Int)).toNat "" = x from by simp [hx]]⟩
  | none =>
    rw [at_none] at q ⊢
    intro h
    obtain ⟨y, hy, e⟩ := List.mem_map.mp h
    have h2 := (mem_mdOf hk).mp ⟨R.md.subset hy, by rw [e]⟩
    obtain ⟨kv, hkv, rfl⟩ := List.mem_map.mp h2
    have e2 : T.getD kv.1.toNat "" = x := congrArg Prod.snd e
    have := (ht.eq_key nd hkv hx).mp e2
    exact q (List.mem_map.mpr ⟨kv, hkv, this⟩)
theorem Rel.none' (R : Rel T O M) {c x : Str} (hc : ∀ k < 3, c ≠ clsN k) : at_ M (c, x) = none := by
  rw [at_none]
  intro h
  obtain ⟨y, hy, e⟩ := List.mem_map.mp h
  have h1 := R.md.subset hy
  unfold mdOf at h1
  rcases List.mem_append.mp h1 with h1 | h1
  · rcases List.mem_append.mp h1 with h1 | h1
    · exact hc 0 (by decide) (by rw [← mdT_class h1, e])
    · exact hc 1 (by decide) (by rw [← mdT_class h1, e])
  · exact hc 2 (by decide) (by rw [← mdT_class h1, e])
end
end Mine
end
section
open PySem PySem.W
set_option maxRecDepth 100000
namespace Mine
section
variable {T : List Str} {O : Ops} {M : Md} {L : List Str} {t : Tb}
theorem at0 {T : List Str} (hp : atoms0 <+: T) : T[0]? = some ("[]" : Str) ∧ T[2]? = some ("{}" : Str) ∧ T[7]? = some ("," : Str) ∧ T[8]? = some ("|" : Str) := ⟨pre_get hp rfl, pre_get hp rfl, pre_get hp rfl, pre_get hp rfl⟩
theorem num_iff {T : List Str} (nd : T.Nodup) {n m : Nat} {x y : Str} (hx : T[n]? = some x) (hy : T[m]? = some y) : n = m ↔ x = y := by
  constructor
  · rintro rfl; rw [hx] at hy; exact Option.some.inj hy
  · rintro rfl; exact nodup_ix nd hx hy
theorem other_cls : otherOf (clsN 0) = "none" ∧ otherOf (clsN 1) = clsN 2 ∧ otherOf (clsN 2) = clsN 1 ∧ (∀ k < 3, ("none" : Str) ≠ clsN k) := by decide
theorem bar_eq (R : Rel T O M) (hp : atoms0 <+: T) (nd : T.Nodup) {n : Nat} {x : Str} (hx : T[n]? = some x) {k : Nat} (hk : k < 3) {tt : Str} (hc : lawClass tt = clsN k) (hf : fixD tt = .str (clsN k)) (pr : Int) : barC O pr tt n = barL M pr tt x := by
  obtain ⟨t0, t2, t7, t8⟩ := at0 hp
  obtain ⟨o0, o1, o2, on⟩ := other_cls
  have e7 := num_iff nd hx t7
  have e0 := num_iff nd hx t0
  have e2 := num_iff nd hx t2
  have e8 := num_iff nd hx t8
  unfold barC barL
  simp only [e7, e0, e2]
  split
  · rfl
  split
  · rfl
  have i1 : isKind tt "infix" = decide (k = 1) := isKind_cls (j := 1) hk (by decide) hf
  have i2 : isKind tt "postfix" = decide (k = 2) := isKind_cls (j := 2) hk (by decide) hf
  have h8 : (n == 8) = decide (x = "|") := by
    by_cases h : n = 8
    · rw [beq_iff_eq.mpr h, decide_eq_true (e8.mp h)]
    · rw [beq_eq_false_iff_ne.mpr h, decide_eq_false (fun q => h (e8.mpr q))]
  rw [hc]
  unfold ref3 ref2 ref1
  rw [i1, i2, h8]
  match k, hk with
  | 0, _ =>
    rw [o0, R.none' on]
    have hne : (clsN 0 : Str) ≠ "infix" := by decide
    by_cases h : x = "|"
    · simp [h, hne]
    · simp [h]
  | 1, _ =>
    rw [o1, R.at nd (by decide) hx]
    have hI : clsN 1 = "infix" := rfl
    have hQ : O.get 2 = O.Q := rfl
    rw [hQ, hI]
    by_cases h : x = "|"
    · by_cases h1 : 0 < pr
      · by_cases h2 : pr < 1001
        · have h3 : pr ≤ 1000 := by omega
          simp [h, h1, h2, h3]
        · have h3 : ¬ pr ≤ 1000 := by omega
          cases q : (at_ O.Q (n : Int)).isSome <;> simp [h, h1, h2, h3, q]
      · simp [h, h1]
    · by_cases h1 : 0 < pr
      · cases q : (at_ O.Q (n : Int)).isSome <;> simp [h, h1, q]
      · simp [h, h1]
  | 2, _ =>
    rw [o2, R.at nd (by decide) hx]
    have hI : O.get 1 = O.I := rfl
    have hne : (clsN 2 : Str) ≠ "infix" := by decide
    rw [hI]
    by_cases h : x = "|"
    · simp [h, hne]
    · by_cases h1 : 0 < pr
      · cases q : (at_ O.I (n : Int)).isSome <;> simp [h, h1, q]
      · simp [h, h1]
theorem isA_num {t : Tm} (h : t.isA = true) : t = .a t.num := by
  cases t with
  | a n => rfl
  | v k => exact absurd h (by show ¬ (("v" : Str) == "a") = true; decide)
  | i k => exact absurd h (by show ¬ (("i" : Str) == "a") = true; decide)
  | s1 k => exact absurd h (by show ¬ (("s" : Str) == "a") = true; decide)
  | dot x y => exact absurd h (by show ¬ (("s" : Str) == "a") = true; decide)
theorem findSome_congr {α β : Type} {f g : α → Option β} : ∀ {l : List α}, (∀ x ∈ l, f x = g x) → l.findSome? f = l.findSome? g
  | [], _ => rfl
  | x :: l, h => by
    rw [List.findSome?_cons, List.findSome?_cons, h x (.head _), findSome_congr fun y hy => h y (.tail _ hy)]
/-- the two errors are one -/
theorem err_eq (R : Rel T O M) (hp : atoms0 <+: T) (nd : T.Nodup) (p ty nm : Tm) (hnm : ∀ t ∈ namesOf nm, t.isA = true → ∃ x, T[t.num]? = some x) : errD O T p ty nm = dueE M T p ty nm := by
  unfold errD dueE
  cases hI : errI p ty nm (namesOf nm) with
  | some e => rfl
  | none =>
    simp only
    cases hT : errT p ty nm (namesOf nm) with
    | some e => rfl
    | none =>
      simp only
      obtain ⟨_, _, iA⟩ := errT_none hT
      split
      · rfl
      rcases class_fix (T.getD ty.num "") with ⟨h1, h2⟩ | ⟨k, hk, h1, h2, h3⟩
      · rw [h1, h2]; rfl
      · have n1 : ¬ isNoneD (fixD (T.getD ty.num "")) = true := by rw [h2]; exact Bool.false_ne_true
        have n2 : ¬ lawClass (T.getD ty.num "") = "" := by
          rw [h1]
          match k, hk with
          | 0, _ => decide
          | 1, _ => decide
          | 2, _ => decide
        rw [if_neg n1, if_neg n2]
        refine findSome_congr fun t ht => ?_
        have hA := iA t ht
        obtain ⟨x, hx⟩ := hnm t ht hA
        have gx : T.getD t.num "" = x := by simp [hx]
        unfold errP
        rw [bar_eq R hp nd hx hk h1 h2, gx, ← isA_num hA]
end
end Mine
end
section
open PySem PySem.W
set_option maxRecDepth 100000
namespace Mine
theorem Ops.get_set {O : Ops} {t : Tb} {k j : Nat} (hk : k < 3) (hj : j < 3) : (O.set t k).get j = if j = k then t else O.get j := by
  match k, hk, j, hj with
  | 0, _, 0, _ => rfl
  | 0, _, 1, _ => rfl
  | 0, _, 2, _ => rfl
  | 1, _, 0, _ => rfl
  | 1, _, 1, _ => rfl
  | 1, _, 2, _ => rfl
  | 2, _, 0, _ => rfl
  | 2, _, 1, _ => rfl
  | 2, _, 2, _ => rfl
section
variable {T : List Str} {O : Ops} {M : Md} {L : List Str} {t : Tb}
theorem mdOf_perm {O O' : Ops} {k : Nat} (hk : k < 3) {x : (Str × Str) × (Int × Str)} (h1 : (mdT T O k).Perm (x :: mdT T O' k)) (h2 : ∀ j < 3, j ≠ k → mdT T O j = mdT T O' j) : (mdOf T O).Perm (x :: mdOf T O') := by
  unfold mdOf
  match k, hk with
  | 0, _ =>
    rw [h2 1 (by decide) (by decide), h2 2 (by decide) (by decide)]
    exact (h1.append_right _).append_right _
  | 1, _ =>
    rw [h2 0 (by decide) (by decide), h2 2 (by decide) (by decide)]
    refine ((h1.append_left _).append_right _).trans ?_
    rw [List.append_assoc, List.append_assoc]
    exact List.perm_middle
  | 2, _ =>
    rw [h2 0 (by decide) (by decide), h2 1 (by decide) (by decide)]
    exact (h1.append_left _).trans List.perm_middle
theorem mdT_set {k j : Nat} (hk : k < 3) (hj : j < 3) (hne : j ≠ k) (u v : Tb) : mdT T (O.set u k) j = mdT T (O.set v k) j := by
  unfold mdT
  rw [Ops.get_set hk hj, Ops.get_set hk hj, if_neg hne, if_neg hne]
theorem del_part (h : TbOk T L t) (nd : T.Nodup) {n : Nat} {x : Str} (hx : T[n]? = some x) (c : Str) : del_ (t.map (ent T c)) (c, x) = (del_ t (n : Int)).map (ent T c) := by
  unfold del_
  rw [List.filter_map]
  congr 1
  apply List.filter_congr
  intro kv hkv
  have := h.eq_key nd hkv hx
  show decide (¬ (ent T c kv).1 = (c, x)) = decide (¬ kv.1 = (n : Int))
  exact decide_eq_decide.mpr (not_congr ⟨fun q => this.mp (congrArg Prod.snd q), fun e => Prod.ext rfl (this.mpr e)⟩)
theorem del_other {c c' x : Str} (h : c ≠ c') : del_ (t.map (ent T c)) (c', x) = t.map (ent T c) := by
  unfold del_
  rw [List.filter_eq_self]
  intro y hy
  obtain ⟨kv, _, rfl⟩ := List.mem_map.mp hy
  exact decide_eq_true fun e => h (show c = c' from congrArg Prod.fst e)
theorem del_append {K V : Type} [DecidableEq K] (l m : List (K × V)) (k : K) : del_ (l ++ m) k = del_ l k ++ del_ m k := List.filter_append ..
theorem del_mdOf (h : ∀ k < 3, TbOk T (NL k) (O.get k)) (nd : T.Nodup) {n : Nat} {x : Str} (hx : T[n]? = some x) {k : Nat} (hk : k < 3) : del_ (mdOf T O) (clsN k, x) = mdOf T (O.set (del_ (O.get k) (n : Int)) k) := by
  have part : ∀ j < 3, del_ (mdT T O j) (clsN k, x) = mdT T (O.set (del_ (O.get k) (n : Int)) k) j := by
    intro j hj
    unfold mdT
    rw [Ops.get_set hk hj]
    by_cases e : j = k
    · rw [if_pos e]; subst e; exact del_part (h j hj) nd hx _
    · rw [if_neg e]; exact del_other fun q => e (clsN_inj hj hk q)
  unfold mdOf
  rw [del_append, del_append, part 0 (by decide), part 1 (by decide), part 2 (by decide)]
theorem keys_put {K V : Type} [DecidableEq K] {l : List (K × V)} (nd : (l.map (·.1)).Nodup) {k a : K} {v : V} : a ∈ (put_ l k v).map (·.1) ↔ a = k ∨ a ∈ l.map (·.1) := by
  rw [((put_perm nd k v).map _).mem_iff, List.map_cons, List.mem_cons]
  constructor
  · rintro (h | h)
    · exact .inl h
    · exact .inr (((del_sub l k).map _).subset h)
  · rintro (h | h)
    · exact .inl h
    · by_cases e : a = k
      · exact .inl e
      · refine .inr ?_
        obtain ⟨x, hx, rfl⟩ := List.mem_map.mp h
        exact List.mem_map.mpr ⟨x, List.mem_filter.mpr ⟨hx, by simpa using e⟩, rfl⟩
theorem keys_del {K V : Type} [DecidableEq K] {l : List (K × V)} {k a : K} : a ∈ (del_ l k).map (·.1) → a ∈ l.map (·.1) := fun h => ((del_sub l k).map _).subset h
theorem TbOk.up (h : TbOk T L t) {n : Nat} {x : Str} (hx : T[n]? = some x) (hL : x ∈ L) (pr : Int) (tt : Str) : TbOk T L (upT t pr tt (n : Int)) := by
  unfold upT
  split
  · refine ⟨put_nodup h.nd _ _, fun kv hkv => ?_⟩
    have := (put_perm h.nd (n : Int) (pr, tt)).subset hkv
    rcases List.mem_cons.mp this with rfl | hm
    · exact ⟨by show (0 : Int) ≤ n; omega, x, by simpa using hx, hL⟩
    · exact h.ok kv ((del_sub t _).subset hm)
  · exact ⟨del_nodup h.nd _, fun kv hkv => h.ok kv ((del_sub t _).subset hkv)⟩
theorem keys_up (h : TbOk T L t) {n : Nat} {pr : Int} {tt : Str} {a : Int} (ha : a ∈ (upT t pr tt (n : Int)).map (·.1)) : (0 < pr ∧ a = n) ∨ a ∈ t.map (·.1) := by
  unfold upT at ha
  split at ha
  · rename_i hp
    rcases (keys_put h.nd).mp ha with q | q
    · exact .inl ⟨hp, q⟩
    · exact .inr q
  · exact .inr (keys_del ha)
/-- one name is declared -/
theorem Rel.add (R : Rel T O M) (nd : T.Nodup) {n : Nat} {x : Str} (hx : T[n]? = some x) {k : Nat} (hk : k < 3) {tt : Str} (hc : lawClass tt = clsN k) (hs : selT tt = k) (pr : Int) (h7 : n ≠ 7) (hL : x ∈ NL k)
    (hd : 0 < pr → (k = 1 → (n : Int) ∉ O.Q.map (·.1)) ∧ (k = 2 → (n : Int) ∉ O.I.map (·.1))) : Rel T (addOp O pr tt (n : Int)) (setM M pr tt x) := by
  have ea : addOp O pr tt (n : Int) = O.set (upT (O.get k) pr tt (n : Int)) k := by unfold addOp; rw [hs]
  have hok := R.tb k hk
  have hup := hok.up hx hL pr tt
  rw [ea]
  have gI : ∀ u : Tb, (O.set u k).I = if 1 = k then u else O.I := fun u => Ops.get_set (j := 1) hk (by decide)
  have gQ : ∀ u : Tb, (O.set u k).Q = if 2 = k then u else O.Q := fun u => Ops.get_set (j := 2) hk (by decide)
  refine ⟨fun j hj => ?_, ?_, ?_, ?_⟩
  · rw [Ops.get_set hk hj]
    by_cases e : j = k
    · rw [if_pos e, e]; exact hup
    · rw [if_neg e]; exact R.tb j hj
  · intro a
    rw [gI, gQ]
    intro ha hb
    by_cases e1 : 1 = k
    · subst e1
      rw [if_pos rfl] at ha
      rw [if_neg (by decide)] at hb
      rcases keys_up hok ha with ⟨hp, rfl⟩ | q
      · exact (hd hp).1 rfl hb
      · exact R.dis a q hb
    · rw [if_neg e1] at ha
      by_cases e2 : 2 = k
      · subst e2
        rw [if_pos rfl] at hb
        rcases keys_up hok hb with ⟨hp, rfl⟩ | q
        · exact (hd hp).2 rfl ha
        · exact R.dis a ha q
      · rw [if_neg e2] at hb; exact R.dis a ha hb
  · rw [gI]
    by_cases e1 : 1 = k
    · subst e1
      rw [if_pos rfl]
      unfold upT
      split
      · exact (keys_put hok.nd).mpr (.inr R.com)
      · obtain ⟨y, hy, e⟩ := List.mem_map.mp R.com
        exact List.mem_map.mpr ⟨y, List.mem_filter.mpr ⟨hy, by simp only [ne_eq, decide_not, Bool.not_eq_true', decide_eq_false_iff_not]; rw [e]; omega⟩, e⟩
    · rw [if_neg e1]; exact R.com
  · have hdel : (del_ M (clsN k, x)).Perm (mdOf T (O.set (del_ (O.get k) (n : Int)) k)) := by
      rw [← del_mdOf R.tb nd hx hk]
      exact R.md.filter _
    unfold setM upT
    rw [hc]
    split
    · rw [put_new (at_none.mpr (del_keys M (clsN k, x)))]
      refine List.perm_append_comm.trans ?_
      refine (hdel.cons _).trans ?_
      refine (mdOf_perm hk ?_ fun j hj hne => mdT_set hk hj hne _ _).symm
      unfold mdT
      rw [Ops.get_set hk hk, Ops.get_set hk hk, if_pos rfl, if_pos rfl]
      refine ((put_perm hok.nd (n : Int) (pr, tt)).map _).trans ?_
      rw [List.map_cons]
      have : ent T (clsN k) ((n : Int), (pr, tt)) = ((clsN k, x), (pr, tt)) := by
        unfold ent; simp [hx]
      rw [this]
    · exact hdel
noncomputable def Okk (T : List Str) (O : Ops) (pr : Int) (k : Nat) (t : Tm) : Prop :=
  ∃ x, T[t.num]? = some x ∧ t.num ≠ 7 ∧ x ∈ NL k ∧ (0 < pr → (k = 1 → (t.num : Int) ∉ O.Q.map (·.1)) ∧ (k = 2 → (t.num : Int) ∉ O.I.map (·.1)))
theorem Rel.decl (nd : T.Nodup) {k : Nat} (hk : k < 3) {tt : Str} (hc : lawClass tt = clsN k) (hs : selT tt = k) (pr : Int) : ∀ (l : List Tm) {O : Ops} {M : Md}, Rel T O M → (∀ t ∈ l, Okk T O pr k t) → Rel T (declO O pr tt l) (dueM M T pr tt l)
  | [], O, M, R, _ => R
  | t :: l, O, M, R, h => by
    obtain ⟨x, h1, h2, h3, h4⟩ := h t (.head _)
    have gx : T.getD t.num "" = x := by simp [h1]
    show Rel T (declO (addOp O pr tt (t.num : Nat)) pr tt l) (dueM (setM M pr tt (T.getD t.num "")) T pr tt l)
    rw [gx]
    refine Rel.decl nd hk hc hs pr l (R.add nd h1 hk hc hs pr h2 h3 h4) fun u hu => ?_
    obtain ⟨y, g1, g2, g3, g4⟩ := h u (.tail _ hu)
    refine ⟨y, g1, g2, g3, fun hp => ?_⟩
    have ea : addOp O pr tt (t.num : Nat) = O.set (upT (O.get k) pr tt (t.num : Nat)) k := by unfold addOp; rw [hs]
    rw [ea]
    refine ⟨fun e => ?_, fun e => ?_⟩
    · subst e; exact (g4 hp).1 rfl
    · subst e; exact (g4 hp).2 rfl
end
end Mine
end
section
open PySem PySem.W
set_option maxRecDepth 100000
namespace Mine
theorem nmo_ok : ∀ x ∈ NMO, x = "[]" ∨ x = "{}" ∨ x = "," ∨ (x ∈ PN ∧ x ∈ IN) := by decide +kernel
theorem wf_items {L T : List Str} : ∀ {t : Tm}, t.wf L T → ∀ u ∈ t.items, u.wf L T
  | .dot x y, h, u, hu => by
    rcases List.mem_cons.mp hu with rfl | hu
    · exact h.1
    · exact wf_items h.2 u hu
  | .v _, _, _, h => by cases h
  | .i _, _, _, h => by cases h
  | .a _, _, _, h => by cases h
  | .s1 _, _, _, h => by cases h
theorem wf_names {L T : List Str} {t : Tm} (h : t.wf L T) : ∀ u ∈ namesOf t, u.wf L T := by
  cases t with
  | dot x y => exact wf_items (t := .dot x y) h
  | _ => intro u hu; rw [List.mem_singleton.mp hu]; exact h
theorem wf_num {L T : List Str} {t : Tm} (h : t.wf L T) (hA : t.isA = true) : ∃ x, T[t.num]? = some x ∧ x ∈ L := by
  have e := isA_num hA
  rw [e] at h
  exact h
section
variable {T T' : List Str} {O : Ops} {M : Md} {p ty nm : Tm} {G : List (Int × Int)}
theorem okk_of (hp : atoms0 <+: T) (nd : T.Nodup) {t : Tm} {x : Str} (hx : T[t.num]? = some x) (hL : x ∈ NMO) {k : Nat} (hk : k < 3) {tt : Str} (hf : fixD tt = .str (clsN k)) {pr : Int} (hb : barC O pr tt t.num = none) : Okk T O pr k t := by
  obtain ⟨t0, t2, t7, t8⟩ := at0 hp
  unfold barC at hb
  split at hb
  · cases hb
  rename_i n7
  split at hb
  · cases hb
  rename_i n02
  split at hb
  · cases hb
  rename_i h3
  rw [not_or] at n02
  have x0 : x ≠ "[]" := fun e => n02.1 ((num_iff nd hx t0).mpr e)
  have x2 : x ≠ "{}" := fun e => n02.2 ((num_iff nd hx t2).mpr e)
  have x7 : x ≠ "," := fun e => n7 ((num_iff nd hx t7).mpr e)
  have hPI : x ∈ PN ∧ x ∈ IN := by
    rcases nmo_ok x hL with e | e | e | e
    · exact absurd e x0
    · exact absurd e x2
    · exact absurd e x7
    · exact e
  have i1 : isKind tt "infix" = decide (k = 1) := isKind_cls (j := 1) hk (by decide) hf
  have i2 : isKind tt "postfix" = decide (k = 2) := isKind_cls (j := 2) hk (by decide) hf
  unfold ref3 ref2 at h3
  rw [i1, i2] at h3
  simp only [Bool.or_eq_true, not_or, Bool.and_eq_true, decide_eq_true_eq, not_and] at h3
  refine ⟨x, hx, n7, ?_, fun hpr => ⟨fun e => ?_, fun e => ?_⟩⟩
  · unfold NL; split
    · exact hPI.1
    · exact hPI.2
  · have := h3.1.2 ⟨hpr, e⟩
    rw [← at_none]
    cases q : at_ O.Q (t.num : Int) with
    | none => rfl
    | some v => rw [q] at this; exact absurd rfl this
  · have := h3.2 ⟨hpr, e⟩
    rw [← at_none]
    cases q : at_ O.I (t.num : Int) with
    | none => rfl
    | some v => rw [q] at this; exact absurd rfl this
theorem dueE_none (h : dueE M T p ty nm = none) : errT p ty nm (namesOf nm) = none ∧ lawClass (T.getD ty.num "") ≠ "" ∧ ∀ t ∈ namesOf nm, barL M p.snd (T.getD ty.num "") (T.getD t.num "") = none := by
  unfold dueE at h
  split at h
  · cases h
  split at h
  · cases h
  rename_i hT
  split at h
  · cases h
  split at h
  · cases h
  rename_i hc
  refine ⟨hT, hc, fun t ht => ?_⟩
  rw [List.findSome?_eq_none_iff] at h
  have := h t ht
  simpa using this
theorem decl_ok (R : Rel T O M) (hp : atoms0 <+: T) (nd : T.Nodup) (hn : nm.wf NMO T) (hd : dueE M T p ty nm = none) :
    Rel T (declO O p.snd (T.getD ty.num "") (namesOf nm)) (dueM M T p.snd (T.getD ty.num "") (namesOf nm)) := by
  obtain ⟨hT, hc, hb⟩ := dueE_none hd
  obtain ⟨_, _, iA⟩ := errT_none hT
  rcases class_fix (T.getD ty.num "") with ⟨h1, _⟩ | ⟨k, hk, h1, h2, h3⟩
  · exact absurd h1 hc
  refine R.decl nd hk h1 h3 p.snd (namesOf nm) fun t ht => ?_
  obtain ⟨x, hx, hL⟩ := wf_num (wf_names hn t ht) (iA t ht)
  have gx : T.getD t.num "" = x := by simp [hx]
  refine okk_of hp nd hx hL hk h2 ?_
  rw [bar_eq R hp nd hx hk h1 h2, ← gx]
  exact hb t ht
theorem Rel.ext (R : Rel T O M) (h : T <+: T') : Rel T' O M := by
  have e : ∀ k < 3, mdT T' O k = mdT T O k := by
    intro k hk
    unfold mdT
    apply List.map_congr_left
    intro kv hkv
    obtain ⟨x, h1, h2, _, _⟩ := (R.tb k hk).text hkv
    unfold ent
    rw [h2, show T'.getD kv.1.toNat "" = x from by simp [pre_get h h1]]
  refine ⟨fun k hk => ⟨(R.tb k hk).nd, fun kv hkv => ?_⟩, R.dis, R.com, ?_⟩
  · obtain ⟨h1, x, h2, h3⟩ := (R.tb k hk).ok kv hkv
    exact ⟨h1, x, pre_get h h2, h3⟩
  · unfold mdOf
    rw [e 0 (by decide), e 1 (by decide), e 2 (by decide)]
    exact R.md
theorem dueE_ext (h : T <+: T') {L : List Str} (hy : ty.wf L T) (hn : nm.wf NMO T) : dueE M T' p ty nm = dueE M T p ty nm := by
  unfold dueE
  cases errI p ty nm (namesOf nm) with
  | some e => rfl
  | none =>
    simp only
    cases hT : errT p ty nm (namesOf nm) with
    | some e => rfl
    | none =>
      simp only
      obtain ⟨_, tA, iA⟩ := errT_none hT
      obtain ⟨y, hy1, _⟩ := wf_num hy tA
      have g1 : T.getD ty.num "" = y := by simp [hy1]
      have g2 : T'.getD ty.num "" = y := by simp [pre_get h hy1]
      rw [g1, g2]
      split
      · rfl
      split
      · rfl
      refine findSome_congr fun t ht => ?_
      obtain ⟨x, hx, _⟩ := wf_num (wf_names hn t ht) (iA t ht)
      rw [show T.getD t.num "" = x from by simp [hx], show T'.getD t.num "" = x from by simp [pre_get h hx]]
theorem Rel.rows (R : Rel T O M) (nd : T.Nodup) : (M.map fun kv => (kv.2.1, kv.2.2, ((ix T kv.1.2 : Nat) : Int))).Perm (acc O 3) := by
  refine (R.md.map _).trans ?_
  have part : ∀ k < 3, (mdT T O k).map (fun kv => (kv.2.1, kv.2.2, ((ix T kv.1.2 : Nat) : Int))) = rowsOf (O.get k) := by
    intro k hk
    unfold mdT rowsOf
    rw [List.map_map]
    apply List.map_congr_left
    intro kv hkv
    obtain ⟨x, h1, h2, _, h4⟩ := (R.tb k hk).text hkv
    show (kv.2.1, kv.2.2, ((ix T (T.getD kv.1.toNat "") : Nat) : Int)) = _
    rw [h2, ix_of_get nd h1, Int.toNat_of_nonneg h4]
  unfold mdOf
  rw [List.map_append, List.map_append, part 0 (by decide), part 1 (by decide), part 2 (by decide)]
  exact .refl _
theorem Rel.len (R : Rel T O M) (nd : T.Nodup) : 1 ≤ O.P.length + O.I.length + O.Q.length ∧ O.P.length + O.I.length + O.Q.length < 64 := by
  have h0 := R.tb 0 (by decide)
  have h1 := R.tb 1 (by decide)
  have h2 := R.tb 2 (by decide)
  have l0 : O.P.length ≤ 19 := by
    have := nodup_len (m := PN) (h0.texts_nodup nd) fun y hy => by
      obtain ⟨kv, hkv, rfl⟩ := List.mem_map.mp hy
      obtain ⟨x, _, g, hx, _⟩ := h0.text hkv
      rw [g]; exact hx
    rw [List.length_map] at this
    exact Nat.le_trans this (by decide +kernel)
  have l1 : O.I.length + O.Q.length ≤ 42 := by
    have nn : ((O.I.map fun kv => T.getD kv.1.toNat "") ++ (O.Q.map fun kv => T.getD kv.1.toNat "")).Nodup := by
      refine List.nodup_append.mpr ⟨h1.texts_nodup nd, h2.texts_nodup nd, fun a ha b hb e => ?_⟩
      obtain ⟨u, hu, rfl⟩ := List.mem_map.mp ha
      obtain ⟨v, hv, rfl⟩ := List.mem_map.mp hb
      obtain ⟨x, g1, g2, _, g4⟩ := h2.text hv
      rw [g2] at e
      have := (h1.eq_key nd hu g1).mp e
      refine R.dis u.1 (List.mem_map.mpr ⟨u, hu, rfl⟩) ?_
      rw [this, Int.toNat_of_nonneg g4]
      exact List.mem_map.mpr ⟨v, hv, rfl⟩
    have := nodup_len (m := IN) nn fun y hy => by
      rcases List.mem_append.mp hy with hy | hy
      · obtain ⟨kv, hkv, rfl⟩ := List.mem_map.mp hy
        obtain ⟨x, _, g, hx, _⟩ := h1.text hkv
        rw [g]; exact hx
      · obtain ⟨kv, hkv, rfl⟩ := List.mem_map.mp hy
        obtain ⟨x, _, g, hx, _⟩ := h2.text hkv
        rw [g]; exact hx
    rw [List.length_append, List.length_map, List.length_map] at this
    exact Nat.le_trans this (by decide +kernel)
  have lI : 0 < O.I.length := by
    obtain ⟨x, hx, _⟩ := List.mem_map.mp R.com
    exact List.length_pos_of_mem hx
  omega
end
end Mine
end
section
open PySem PySem.W
set_option maxRecDepth 100000
namespace Mine
noncomputable def KS : List Str := ["integer", "atom", "list", "operator_priority", "operator_specifier", "modify", "create", "operator"]
noncomputable def GoodC (c : PyData) : Prop := ∃ t : Tm, t.dep ≤ 50 ∧ c = t.py
noncomputable def Er.good : Er → Prop
  | .inst => True
  | .ty k c => k ∈ KS ∧ GoodC c
  | .dom k c => k ∈ KS ∧ GoodC c
  | .perm a k c => a ∈ KS ∧ k ∈ KS ∧ GoodC c
theorem ks_all : ∀ k ∈ KS, k ∈ ALL := by decide +kernel
theorem goodC_tup {c : PyData} (h : GoodC c) : ∃ xs, c = .tuple xs := by
  obtain ⟨t, _, rfl⟩ := h
  exact ⟨t.fld, t.py_fld⟩
theorem Er.good.sane {e : Er} (h : e.good) : e.sane := by
  cases e with
  | inst => trivial
  | ty k c => exact ⟨ks_all _ h.1, goodC_tup h.2⟩
  | dom k c => exact ⟨ks_all _ h.1, goodC_tup h.2⟩
  | perm a k c => exact ⟨ks_all _ h.1, ks_all _ h.2.1, goodC_tup h.2.2⟩
noncomputable def Lay (n : Nat) (d : PyData) : Prop := Pl d ∧ d.canLay0 = true ∧ d.depth ≤ n
theorem lay_tuple {n : Nat} {xs : List PyData} (h : ∀ x ∈ xs, Lay n x) : Lay (n + 1) (.tuple xs) := by
  have key : PyData.canLayAll0 xs = true ∧ PyData.depthAll xs ≤ n := by
    induction xs with
    | nil => exact ⟨rfl, Nat.zero_le _⟩
    | cons x xs ih =>
      have hh := ih fun y hy => h y (.tail _ hy)
      have h1 := h x (.head _)
      simp only [PyData.canLayAll0, PyData.depthAll, h1.2.1, hh.1, Bool.and_true]
      exact ⟨trivial, by have := h1.2.2; have := hh.2; omega⟩
  refine ⟨.tuple _ fun x hx => (h x hx).1, by simp only [PyData.canLay0]; exact key.1, ?_⟩
  simp only [PyData.depth]; omega
theorem lay_list {n : Nat} {xs : List PyData} (h : ∀ x ∈ xs, Lay n x) (hn : n < 64) : SeqAt.shaped (.list xs) = true := by
  have := lay_tuple h
  unfold SeqAt.shaped
  have e1 : (PyData.list xs).canLay0 = true := this.2.1
  have e2 : (PyData.list xs).depth = (PyData.tuple xs).depth := rfl
  rw [e1, e2]
  have := this.2.2
  simp; omega
theorem Lay.shaped {n : Nat} {d : PyData} (h : Lay n d) (hn : n ≤ 64) : SeqAt.shaped d = true := by
  unfold SeqAt.shaped
  rw [h.2.1]
  have := h.2.2
  simp; omega
theorem lay_int {n : Nat} (i : Int) : Lay n (.int i) := ⟨.int _, rfl, Nat.zero_le _⟩
theorem lay_none {n : Nat} : Lay n .none := ⟨.none, rfl, Nat.zero_le _⟩
theorem lay_str {n : Nat} {x : Str} (h : PyData.strOk x = true) : Lay n (.str x) := ⟨.str _, h, Nat.zero_le _⟩
theorem Lay.mono {n m : Nat} {d : PyData} (h : Lay n d) (k : n ≤ m) : Lay m d := ⟨h.1, h.2.1, Nat.le_trans h.2.2 k⟩
theorem lay_tm {t : Tm} (h : t.dep ≤ 50) : Lay 51 t.py := ⟨t.pl, t.canLay, by have := t.depth; omega⟩
theorem lay_at {n : Nat} (k : Int) : Lay (n + 1) (.tuple [.str "a", .int k]) := lay_tuple fun x hx => by
  rcases List.mem_cons.mp hx with rfl | hx
  · exact lay_str strOks.2.2.1
  · rw [List.mem_singleton.mp hx]; exact lay_int _
theorem lay_s {n : Nat} (k : Int) {d : PyData} (h : Lay n d) : Lay (n + 1) (.tuple [.str "s", .int k, d]) := lay_tuple fun x hx => by
  rcases List.mem_cons.mp hx with rfl | hx
  · exact lay_str strOks.2.2.2
  · rcases List.mem_cons.mp hx with rfl | hx
    · exact lay_int _
    · rw [List.mem_singleton.mp hx]; exact h
theorem pfold_lay : ∀ (parts : List PyData) (T : List Str), (∀ d ∈ parts, (∃ x, d = .str x) ∨ GoodC d) → ∀ d ∈ (pfold T parts).1, Lay 51 d
  | [], T, _, d, h => by cases h
  | p :: r, T, hp, d, h => by
    rcases List.mem_cons.mp h with rfl | h
    · rcases hp p (.head _) with ⟨x, rfl⟩ | ⟨t, ht, rfl⟩
      · exact lay_at _
      · have : (pstep T t.py).1 = t.py := by rw [t.py_fld]; rfl
        rw [this]; exact lay_tm ht
    · exact pfold_lay r _ (fun d hd => hp d (.tail _ hd)) d h
theorem formal_lay {T : List Str} {G : List (Int × Int)} {name : Str} {parts : List PyData} (h : ∀ d ∈ parts, (∃ x, d = .str x) ∨ GoodC d) : Lay 53 (formal T G name parts).1 := lay_s _ (lay_tuple (pfold_lay parts T h))
theorem out_lay {T : List Str} {G : List (Int × Int)} {e : Er} (h : e.good) : Lay 53 (e.out T G).1 := by
  cases e with
  | inst => exact lay_at _
  | ty k c =>
    exact formal_lay fun d hd => by
      rcases List.mem_cons.mp hd with rfl | hd
      · exact .inl ⟨_, rfl⟩
      · rw [List.mem_singleton.mp hd]; exact .inr h.2
  | dom k c =>
    exact formal_lay fun d hd => by
      rcases List.mem_cons.mp hd with rfl | hd
      · exact .inl ⟨_, rfl⟩
      · rw [List.mem_singleton.mp hd]; exact .inr h.2
  | perm a k c =>
    exact formal_lay fun d hd => by
      rcases List.mem_cons.mp hd with rfl | hd
      · exact .inl ⟨_, rfl⟩
      · rcases List.mem_cons.mp hd with rfl | hd
        · exact .inl ⟨_, rfl⟩
        · rw [List.mem_singleton.mp hd]; exact .inr h.2.2
theorem out_tup (T : List Str) (G : List (Int × Int)) (e : Er) : ∃ xs, (e.out T G).1 = .tuple xs := by
  cases e <;> exact ⟨_, rfl⟩
theorem ball_lay {d : PyData} (h : Lay 53 d) : Lay 55 (ballOf d) := lay_s _ (lay_tuple fun x hx => by
  rcases List.mem_cons.mp hx with rfl | hx
  · exact h
  · rw [List.mem_singleton.mp hx]; exact lay_at (n := 52) _)
section
variable {T T' : List Str} {O : Ops} {M : Md} {p ty nm : Tm} {G : List (Int × Int)}
theorem barL_ks {pr : Int} {tt x a : Str} (h : barL M pr tt x = some a) : a ∈ KS := by
  unfold barL at h
  split at h
  · cases h; decide +kernel
  split at h
  · cases h; decide +kernel
  split at h
  · cases h; decide +kernel
  split at h
  · cases h; decide +kernel
  · cases h
theorem dueE_good (hp : p.dep ≤ 50) (hy : ty.dep ≤ 50) (hn : nm.dep ≤ 50) {er : Er} (h : dueE M T p ty nm = some er) : er.good := by
  have ni : ∀ t ∈ namesOf nm, GoodC t.py := fun t ht => ⟨t, Nat.le_trans (namesOf_dep nm t ht) hn, rfl⟩
  unfold dueE at h
  split at h
  · rename_i e he
    cases h
    unfold errI at he
    split at he
    · cases he; trivial
    split at he
    · cases he; trivial
    split at he
    · cases he; trivial
    · cases he
  split at h
  · rename_i e he
    cases h
    unfold errT at he
    split at he
    · cases he; exact ⟨by decide +kernel, p, hp, rfl⟩
    split at he
    · cases he; exact ⟨by decide +kernel, ty, hy, rfl⟩
    split at he
    · cases he; exact ⟨by decide +kernel, nm, hn, rfl⟩
    cases q : (namesOf nm).find? (fun t => !t.isA) with
    | none => rw [q] at he; cases he
    | some t =>
      rw [q] at he; cases he
      exact ⟨by decide +kernel, ni t (List.mem_of_find?_eq_some q)⟩
  split at h
  · cases h; exact ⟨by decide +kernel, p, hp, rfl⟩
  split at h
  · cases h; exact ⟨by decide +kernel, ty, hy, rfl⟩
  obtain ⟨t, ht, e⟩ := List.exists_of_findSome?_eq_some h
  cases q : barL M p.snd (T.getD ty.num "") (T.getD t.num "") with
  | none => rw [q] at e; cases e
  | some a =>
    rw [q] at e; cases e
    exact ⟨barL_ks q, by decide +kernel, ni t ht⟩
/-- the types are types -/
noncomputable def TyOk (M : Md) : Prop := ∀ kv ∈ M, kv.2.2 ∈ TYS
theorem tys_ok : ∀ x ∈ TYS, PyData.strOk x = true := by decide +kernel
theorem class_ty {tt : Str} (h : lawClass tt ≠ "") : tt ∈ TYS := by
  unfold lawClass at h
  by_cases h1 : (["fx", "fy"] : List Str).any (· == tt) = true
  · simp only [List.any_cons, List.any_nil, Bool.or_false, Bool.or_eq_true, beq_iff_eq] at h1
    rcases h1 with rfl | rfl <;> decide +kernel
  rw [if_neg h1] at h
  by_cases h2 : (["xf", "yf"] : List Str).any (· == tt) = true
  · simp only [List.any_cons, List.any_nil, Bool.or_false, Bool.or_eq_true, beq_iff_eq] at h2
    rcases h2 with rfl | rfl <;> decide +kernel
  rw [if_neg h2] at h
  by_cases h3 : (["xfx", "xfy", "yfx"] : List Str).any (· == tt) = true
  · simp only [List.any_cons, List.any_nil, Bool.or_false, Bool.or_eq_true, beq_iff_eq] at h3
    rcases h3 with rfl | rfl | rfl <;> decide +kernel
  rw [if_neg h3] at h
  exact absurd rfl h
theorem TyOk.del (h : TyOk M) (k : Str × Str) : TyOk (del_ M k) := fun kv hkv => h kv ((del_sub M k).subset hkv)
theorem TyOk.put (h : TyOk M) {k : Str × Str} {e : Int × Str} (he : e.2 ∈ TYS) : TyOk (put_ M k e) := by
  unfold put_
  intro kv hkv
  split at hkv
  · obtain ⟨x, hx, rfl⟩ := List.mem_map.mp hkv
    by_cases q : x.1 = k
    · simp only [q, ↓reduceIte]; exact he
    · simp only [q, ↓reduceIte]; exact h x hx
  · rcases List.mem_append.mp hkv with hkv | hkv
    · exact h kv hkv
    · rw [List.mem_singleton.mp hkv]; exact he
theorem TyOk.setM (h : TyOk M) {tt : Str} (ht : tt ∈ TYS) (pr : Int) (n : Str) : TyOk (setM M pr tt n) := by
  unfold Mine.setM
  split
  · exact (h.del _).put ht
  · exact h.del _
theorem TyOk.dueM {tt : Str} (ht : tt ∈ TYS) (pr : Int) : ∀ (l : List Tm) {M : Md}, TyOk M → TyOk (dueM M T pr tt l)
  | [], M, h => h
  | t :: l, M, h => TyOk.dueM ht pr l (h.setM ht pr _)
theorem TyOk.due (h : TyOk M) (hd : dueE M T p ty nm = none) : TyOk (Mine.dueM M T p.snd (T.getD ty.num "") (namesOf nm)) := TyOk.dueM (class_ty (dueE_none hd).2.1) _ _ h
theorem lay_ent (h : TyOk M) (k : Str × Str) : Lay 1 (entD (at_ M k)) := by
  unfold at_
  cases q : M.find? (fun x => decide (x.1 = k)) with
  | none => exact lay_none
  | some kv =>
    have := h kv (List.mem_of_find?_eq_some q)
    exact lay_tuple fun x hx => by
      rcases List.mem_cons.mp hx with rfl | hx
      · exact lay_int _
      · rw [List.mem_singleton.mp hx]; exact lay_str (tys_ok _ this)
theorem eqv_list_self {xs : List PyData} (h : ∀ x ∈ xs, Pl x) : (PyData.list xs).eqv (.list xs) = true := by
  unfold PyData.eqv
  exact (eqvAll_iff xs (fun x hx => ⟨h x hx, fun y hy => eqv_iff (h x hx) hy⟩) xs h).mpr rfl
theorem plain_ne (a b c : Option (Int × Str)) : (!(PyData.list [entD a, entD b, entD c]).eqv (.list [.none, .none, .none])) = (a.isSome || b.isSome || c.isSome) := by
  cases a <;> cases b <;> cases c <;> simp [entD, PyData.eqv, PyData.eqvAll]
/-- the three entries -/
theorem Rel.three (R : Rel T O M) (nd : T.Nodup) {n : Nat} {x : Str} (hx : T[n]? = some x) : at_ M ("prefix", x) = at_ O.P (n : Int) ∧ at_ M ("infix", x) = at_ O.I (n : Int) ∧ at_ M ("postfix", x) = at_ O.Q (n : Int) :=
  ⟨R.at nd (k := 0) (by decide) hx, R.at nd (k := 1) (by decide) hx, R.at nd (k := 2) (by decide) hx⟩
theorem Rel.small (R : Rel T O M) (nd : T.Nodup) : O.Small 64 ∧ M.length = O.P.length + O.I.length + O.Q.length := by
  have h := R.len nd
  refine ⟨⟨by omega, by omega, by omega⟩, ?_⟩
  rw [R.md.length_eq]
  unfold mdOf mdT
  simp only [List.length_append, List.length_map]
  rfl
theorem Rel.names (R : Rel T O M) {kv : (Str × Str) × (Int × Str)} (h : kv ∈ M) : kv.1.2 ∈ T := by
  have key : ∀ k < 3, kv ∈ mdT T O k → kv.1.2 ∈ T := by
    intro k hk hm
    obtain ⟨e, he, rfl⟩ := List.mem_map.mp hm
    obtain ⟨x, h1, h2, _, _⟩ := (R.tb k hk).text he
    show T.getD e.1.toNat "" ∈ T
    rw [h2]; exact List.mem_of_getElem? h1
  have := R.md.subset h
  unfold mdOf at this
  rcases List.mem_append.mp this with h1 | h1
  · rcases List.mem_append.mp h1 with h1 | h1
    · exact key 0 (by decide) h1
    · exact key 1 (by decide) h1
  · exact key 2 (by decide) h1
theorem rows_lay {l : List Row} (h : ∀ r ∈ l, r.2.1 ∈ TYS) : ∀ x ∈ l.map rowP, Lay 1 x := fun x hx => by
  obtain ⟨r, hr, rfl⟩ := List.mem_map.mp hx
  exact lay_tuple fun x hx => by
    rcases List.mem_cons.mp hx with rfl | hx
    · exact lay_int _
    · rcases List.mem_cons.mp hx with rfl | hx
      · exact lay_str (tys_ok _ (h r hr))
      · rw [List.mem_singleton.mp hx]; exact lay_int _
end
/-- the model, at the start -/
noncomputable def md0 (std : Bool) : Md := put_ (if std then runM [] (flat stdRows) else []) ("infix", ",") (1000, "xfy")
theorem tb_dec {T L : List Str} {t : Tb} (h1 : (t.map (·.1)).Nodup) (h2 : ∀ kv ∈ t, 0 ≤ kv.1 ∧ kv.1.toNat < T.length ∧ T.getD kv.1.toNat "" ∈ L) : TbOk T L t :=
  ⟨h1, fun kv hkv => ⟨(h2 kv hkv).1, T.getD kv.1.toNat "", by have := (h2 kv hkv).2.1; simp [this], (h2 kv hkv).2.2⟩⟩
theorem start_gb (std : Bool) : GB (started atoms0 std).1 G0 :=
  ⟨by cases std <;> decide +kernel, by cases std <;> decide +kernel, by cases std <;> decide +kernel, List.prefix_refl _, by decide +kernel, by decide +kernel⟩
theorem start_ty (std : Bool) : TyOk (md0 std) := by
  have : ∀ b : Bool, ∀ kv ∈ md0 b, kv.2.2 ∈ TYS := by decide +kernel
  exact this std
theorem start_rel (std : Bool) : Rel (started atoms0 std).1 (started atoms0 std).2 (md0 std) := by
  refine ⟨fun k hk => ?_, ?_, ?_, ?_⟩
  · have h1 : ∀ b : Bool, ∀ k < 3, (((started atoms0 b).2.get k).map (·.1)).Nodup := by decide +kernel
    have h2 : ∀ b : Bool, ∀ k < 3, ∀ kv ∈ (started atoms0 b).2.get k, 0 ≤ kv.1 ∧ kv.1.toNat < (started atoms0 b).1.length ∧ (started atoms0 b).1.getD kv.1.toNat "" ∈ NL k := by decide +kernel
    exact tb_dec (h1 std k hk) (h2 std k hk)
  · cases std <;> decide +kernel
  · cases std <;> decide +kernel
  · cases std <;> decide +kernel
end Mine
end
section
open PySem PySem.W
set_option maxRecDepth 100000
namespace Mine
/- what a call leaves behind -/
noncomputable def oT (T : List Str) (G : List (Int × Int)) : Option Er → List Str
  | none => T
  | some er => (er.out T G).2.1
noncomputable def oG (T : List Str) (G : List (Int × Int)) : Option Er → List (Int × Int)
  | none => G
  | some er => (er.out T G).2.2
noncomputable def oM (M : Md) (T : List Str) (p ty nm : Tm) : Option Er → Md
  | none => dueM M T p.snd (T.getD ty.num "") (namesOf nm)
  | some _ => M
noncomputable def oO (O : Ops) (T : List Str) (p ty nm : Tm) : Option Er → Ops
  | none => declO O p.snd (T.getD ty.num "") (namesOf nm)
  | some _ => O
noncomputable def oD (T : List Str) (G : List (Int × Int)) : Option Er → PyData
  | none => .none
  | some er => (er.out T G).1
noncomputable def oB (T : List Str) (G : List (Int × Int)) : Option Er → PyData
  | none => .none
  | some er => ballOf (er.out T G).1
theorem step_ok {T : List Str} {G : List (Int × Int)} {O : Ops} {M : Md} {p ty nm : Tm} {L : List Str} (hB : GB T G) (R : Rel T O M) (Y : TyOk M) (hp : p.dep ≤ 50) (hy : ty.dep ≤ 50) (hn : nm.dep ≤ 50) (wy : ty.wf L T) (wn : nm.wf NMO T) {oe : Option Er} (he : dueE M T p ty nm = oe) :
    GB (oT T G oe) (oG T G oe) ∧ T <+: oT T G oe ∧ G <+: oG T G oe ∧ Rel (oT T G oe) (oO O T p ty nm oe) (oM M T p ty nm oe) ∧ TyOk (oM M T p ty nm oe) ∧ errD O (oT T G oe) p ty nm = oe ∧ Lay 55 (oB T G oe) := by
  have key : ∀ {T' : List Str} {G' : List (Int × Int)}, GB T' G' → T <+: T' → errD O T' p ty nm = oe := by
    intro T' G' hB' hT
    have R' := R.ext hT
    have wn' := wn.mono (fun _ h => h) hT
    rw [err_eq R' hB'.pre hB'.nd p ty nm fun t ht hA => by
      obtain ⟨x, hx, _⟩ := wf_num (wf_names wn' t ht) hA
      exact ⟨x, hx⟩, dueE_ext hT wy wn, he]
  cases oe with
  | none => exact ⟨hB, List.prefix_refl _, List.prefix_refl _, decl_ok R hB.pre hB.nd wn he, Y.due he, key hB (List.prefix_refl _), lay_none⟩
  | some er =>
    have hg := dueE_good hp hy hn he
    obtain ⟨h1, h2, h3⟩ := hB.out hg.sane
    exact ⟨h1, h2, h3, R.ext h2, Y, key h1 h2, ball_lay (out_lay hg)⟩
theorem oD_cases (T : List Str) (G : List (Int × Int)) (oe : Option Er) : (oD T G oe = .none ∧ oB T G oe = .none) ∨ (isNoneD (oD T G oe) = false ∧ oB T G oe = ballOf (oD T G oe)) := by
  cases oe with
  | none => exact .inl ⟨rfl, rfl⟩
  | some er =>
    obtain ⟨xs, e⟩ := out_tup T G er
    exact .inr ⟨by show isNoneD (er.out T G).1 = false; rw [e]; rfl, rfl⟩
end Mine
end
section
open PySem PySem.W
set_option maxRecDepth 100000
namespace Mine
theorem DueQ.out {prog : Program} {w : World} {B : BA} {T : List Str} {G : List (Int × Int)} {mo : Addr} {M : Md} {p ty nm : Tm} {av : AV} {rs' nw : List Reg} (h : DueQ prog w B T G mo M p ty nm av rs' nw) :
    ∃ oe : Option Er, dueE M T p ty nm = oe ∧ av = .d (oD T G oe) ∧ rs' = bookRs prog w B (oT T G oe) (oG T G oe) ++ [one prog w mo (.dTS (mdA (oM M T p ty nm oe)))] ∧ nw = [] := by
  obtain ⟨h0, ⟨h1, h2, h3⟩ | ⟨er, h1, h2, h3⟩⟩ := h
  · exact ⟨none, h1, h2, h3, h0⟩
  · exact ⟨some er, h1, h2, h3, h0⟩
theorem getD_md (M : Md) (c x : Str) : (at_ (mdA M) [c, x]).getD (.d .none) = .d (entD (at_ M (c, x))) := by
  rw [at_md]; cases at_ M (c, x) <;> rfl
noncomputable def L5 : List Str := ["~", "op", "+", "-", "|"]
noncomputable def L3 : List Str := ["prefix", "infix", "postfix"]
theorem l5_all : ∀ x ∈ L5, x ∈ ALL := by decide +kernel
theorem rowsA_eq (l : List Row) : rowsA l = (l.map rowP).map .d := by simp [rowsA]
section
variable {prog : Program} {w : World}
set_option maxHeartbeats 1000000
/-- the law, walked -/
noncomputable abbrev lwLr (ro : Option AV) (sa pa cells : Option Addr) (sd : Option Bool) (ops : Option Addr) (f s t d to wa nu en pl : Option AV) : Lc :=
  [("script", sa.map fun a => .v (.ref a)), ("pool", pa.map fun a => .v (.ref a)), ("cells", cells.map fun a => .v (.ref a)), ("standard", sd.map fun b => .d (.bool b)), ("operators", ops.map fun a => .v (.ref a)), ("step", none), ("first", f), ("second", s), ("third", t), ("due", d), ("told", to), ("error", none), ("wanted", wa), ("number", nu), ("entries", en), ("plain", pl), ("rows", ro)]
noncomputable abbrev lwL := lwLr none
noncomputable abbrev lwCs (prog : Program) (w : World) (L : Addr) (B : BA) (mo : Addr) (on : Option AV) : List Reg := [cellR prog w (L + 1 + 2) on, cellR prog w (L + 1 + 1) (some (.v (.ref mo))), cellR prog w (L + 1 + 0) (some (.v (.ref B.o)))]
noncomputable abbrev lwW (prog : Program) (w : World) (L : Addr) (P : PA) (B : BA) (X : OA) (mo : Addr) (on : Option AV) (T : List Str) (G : List (Int × Int)) (O : Ops) (M : Md) (pos mix : Int) : List Reg :=
  [cellR prog w (L + 1 + 2) on, cellR prog w (L + 1 + 1) (some (.v (.ref mo))), cellR prog w (L + 1 + 0) (some (.v (.ref B.o)))] ++ (genRs prog w P B T G pos mix ++ (opsRs prog w B X O ++ [one prog w mo (.dTS (mdA M))]))
inductive LwJ (prog : Program) (w : World) (L : Addr) (P : PA) (B : BA) (X : OA) (mo : Addr) (m : Lc) (D : DS) : Prop
  | mk (on : Option AV) (T : List Str) (G : List (Int × Int)) (O : Ops) (M : Md) (pos mix : Int) (hB : GB T G) (hR : Rel T O M) (hY : TyOk M) (p0 : 0 ≤ pos) (p1 : pos ≤ P.figs.length) (e : D = ⟨m, lwW prog w L P B X mo on T G O M pos mix⟩) : LwJ prog w L P B X mo m D
theorem pool_el {prog : Program} {w : World} {X : AV → List Reg → List Reg → Prop} (h : ∀ (a b : Addr) (figs : List Int) (mix : Int) (rs' : List Reg), figs.length ≤ 1000 → X (.v (.ref a)) rs' (poolRs prog w a b figs 0 mix)) :
    ∀ av rs' nw, (∃ a b figs mix, av = .v (.ref a) ∧ figs.length ≤ 1000 ∧ nw = poolRs prog w a b figs 0 mix) → X av rs' nw := by
  rintro _ rs' _ ⟨a, b, figs, mix, rfl, hf, rfl⟩; exact h a b figs mix rs' hf
theorem ops_el {A : AV} {R : Addr → Addr → OA → List Reg} {N : OA → List Reg} {G : Addr → Addr → AV → List Reg → List Reg → Prop} (h : ∀ X : OA, G X.o X.d A (R X.o X.d X) (N X)) : ∀ x dx av rs' nw, (av = A ∧ ∃ X : OA, X.o = x ∧ X.d = dx ∧ rs' = R x dx X ∧ nw = N X) → G x dx av rs' nw := by
  rintro _ _ _ _ _ ⟨rfl, X, rfl, rfl, rfl, rfl⟩; exact h X
theorem sym_el {A : AV} {N : BA → List Reg} {G : Addr → Addr → AV → List Reg → List Reg → Prop} (h : ∀ (B : BA) (r : Reg) (nw : List Reg), r :: nw = N B → G B.o B.dd A [r] nw) : ∀ x dx av rs' nw, (av = A ∧ ∃ B : BA, B.o = x ∧ B.dd = dx ∧ rs' ++ nw = N B ∧ rs'.length = 1) → G x dx av rs' nw := by
  rintro _ _ _ rs' nw ⟨rfl, B, rfl, rfl, e, hl⟩
  obtain ⟨r, rfl⟩ := List.length_eq_one_iff.mp hl
  exact h B r nw e
theorem law_walk (sa : Addr) (ns : List Int) (h₁ : Heap) (A : Around) (s : Shared) (vals : List Value) (hs : Script sa ns h₁) (p : Pre (w := w) h₁ A 7 [] [.v (.ref sa)] s vals) (hA : A.frames = some []) :
    codeAny (model prog w) A (.call (.ref 434) ⟨vals, []⟩) (fun r s' => match r with | .ok (.ret v) => FnPost [] (fun av _ _ => av = .d (.bool true)) s v s' | _ => False) s := by
  refine fn_bodyC (H := Script sa ns) (Z := fun A => A.frames = some []) ["script"] (lwL (some sa) none none none none none none none none none none none none none) [("name", 2), ("model", 1), ("book", 0)] (fun _ => none)
    (by rfl) (by rfl) (by kernel_rfl) ?_ (by rfl) (by decide) (fun L => by rfl) (by decide) ?_ ?_ ?_ (by show (["script", "pool", "cells", "standard", "operators", "step", "first", "second", "third", "due", "told", "error", "wanted", "number", "entries", "plain", "rows"] : List Str).Nodup; decide) ?_ (by rfl) ?_ (by rfl) (by rfl) (by rfl) h₁ A s vals hs p hA
  · intro vals h
    obtain ⟨a, rfl⟩ := len1 h
    rfl
  · intro L p hp
    rcases List.mem_cons.mp hp with rfl | hp
    · rfl
    rcases List.mem_cons.mp hp with rfl | hp
    · rfl
    · rw [List.mem_singleton.mp hp]; rfl
  · intro L x hx
    rw [List.mem_singleton.mp hx]; exact .inl (by rfl)
  · intro x a hx
    rcases List.mem_cons.mp hx with e | hx
    · cases e; exact ⟨by simp, by rfl⟩
    · simp at hx
  · intro p hp a ha
    cases ha
  intro C hC ho hs hA
  have hlen : ns.length ≤ 63 := hs.1
  obtain ⟨A', hA1, hA2⟩ := hA
  have Ou := outs_top hA1 hA2 (by rfl)
  clear hA1 hA2 hA
  refine ss_cons <| s_assign (i := 1) <| e_fcall 356 <| l_cons <| e_loc (i := 0) (by rfl) <| l_nil <| ol_fnH (fn_pool sa ns) hs [] .nil ?_
  refine pool_el fun pa pb figs mix rs0 hf => ?_
  unfold Aft
  rw [show ∀ l : List Reg, setAll l [] rs0 = l from fun l => by cases rs0 <;> rfl]
  refine ⟨⟨_, by rfl⟩, ?_⟩
  refine ss_cons <| s_assignC (i := 2) (by rfl) <| e_fcall 154 <| l_nil <| ol_make (fun x dx => fn_symInit x dx) [] .nil ?_
  refine sym_el fun B r nw e => ⟨rfl, ?_⟩
  obtain ⟨rfl, rfl⟩ := List.cons.inj (show r :: nw = _ :: _ from e)
  refine ⟨⟨_, by rfl⟩, ?_⟩
  refine GV.less (D' := ⟨lwL (some sa) (some pa) none none none none none none none none none none none none, [cellR prog w (C.L + 1 + 2) none, cellR prog w (C.L + 1 + 1) none, cellR prog w (C.L + 1 + 0) (some (.v (.ref B.o)))] ++ (poolRs prog w pa pb figs 0 mix ++ bookRs prog w B atoms0 G0)⟩) (fun s d => d) ?_
  refine ss_cons <| s_assign (i := 2) <| e_bin ?_
  refine e_list <| l_cons <| e_int <| l_cons <| e_int <| l_nil ⟨by decide, fun q1 => ?_⟩
  refine e_listcomp [] (by rfl) (by decide) (by rfl) (by decide) (by rfl) <| e_upto <| e_loc (i := 0) (by rfl) <| e_int ⟨sa, nums ns, 4, rfl, rfl, hs.now (prog := prog), by simp; omega, fun c => ⟨c, (nums ns).take 4, 11, rfl, by rfl, by simp; omega,
    fun k ys rs => rs = [cellR prog w (C.L + 1 + 2) none, cellR prog w (C.L + 1 + 1) none, cellR prog w (C.L + 1 + 0) (some (.v (.ref B.o)))] ++ (poolRs prog w pa pb figs 0 mix ++ bookRs prog w B atoms0 G0) ++ [one prog w q1 (.list [.d (.int 0), .d (.int 500)]), one prog w c (.list ((nums ns).take 4))] ∧ ys = ((nums ns).take 4).take k, ⟨rfl, rfl⟩, ?_, ?_, ?_⟩⟩
  · rintro k ys _ ⟨rfl, _⟩
    exact List.mem_append_right _ (.tail _ (.head _))
  · rintro CL Dl I hCL k y ys _ hy ⟨rfl, rfl⟩
    obtain ⟨n, rfl⟩ : ∃ n : Int, y = .d (.int n) := by
      have := List.mem_of_getElem? hy
      obtain ⟨n, _, e⟩ := List.mem_map.mp (List.mem_of_mem_take this)
      exact ⟨n, e.symm⟩
    refine t_nil ⟨fun _ => ?_, fun e => absurd e.symm Bool.false_ne_true⟩
    have tk : ((nums ns).take 4).take k ++ [.d (.int n)] = ((nums ns).take 4).take (k + 1) := by rw [List.take_add_one (i := k), hy]; rfl
    exact e_bcall (l_cons <| e_loc (i := 0) (by rfl) <| l_nil <| ol_int ⟨_, to_of, rfl, tk⟩) kp_type
  rintro Dl ys _ ⟨rfl, rfl⟩ _
  refine o_addL (i := 10) (j := 12) (by rfl) (by rfl) (by simp; omega) fun pc => ⟨⟨_, by rfl⟩, ?_⟩
  have hcs : (([.d (.int 0), .d (.int 500)] : List AV) ++ ((nums ns).take 4).take ((nums ns).take 4).length) = nums ([0, 500] ++ ns.take 4) := by
    rw [List.take_length]; simp [List.map_take]
  rw [hcs]
  obtain ⟨P, hPa, hPb, hPc, hPf, hPs⟩ : ∃ P : PA, P.a = pa ∧ P.b = pb ∧ P.c = pc ∧ P.figs = figs ∧ P.cs = [0, 500] ++ ns.take 4 := ⟨⟨pa, pb, pc, figs, [0, 500] ++ ns.take 4, hf, by simp, by simp; omega⟩, rfl, rfl, rfl, rfl, rfl⟩
  rw [← hPs]
  clear hcs hPs
  subst hPa hPb hPc hPf
  let cel : Option AV → List Reg := fun m => [cellR prog w (C.L + 1 + 2) none, cellR prog w (C.L + 1 + 1) m, cellR prog w (C.L + 1 + 0) (some (.v (.ref B.o)))]
  refine GV.less (D' := ⟨lwL (some sa) (some P.a) (some P.c) none none none none none none none none none none none, cel none ++ genRs prog w P B atoms0 G0 0 mix⟩) to_oS ?_
  have hP0 : (0 : Int) ≤ P.figs.length := Int.natCast_nonneg _
  refine ss_cons <| s_assign (i := 3) <| e_cmp <| e_fcall 363 <| l_cons <| e_loc (i := 1) (by rfl) <| l_cons <| e_int <| l_nil <| ol_f (fn_pick P.a P.b P.figs 0 mix 4 P.hf (by decide) hP0 (by decide)) [3, 4] ?_
  refine PoolQ.el fun k p1 m1 k0 k1 p10 p11 => ?_
  refine e_int <| o_gt ⟨⟨_, by rfl⟩, ?_⟩
  generalize decide (0 < k) = std
  refine ss_cons <| s_assign (i := 4) <| e_fcall 347 <| l_cons <| e_cell (i := 2) (by rfl) <| l_cons <| e_loc (i := 3) (by rfl) <| l_nil <| ol_make (fun x dx => fn_opsInit B atoms0 G0 std (by decide +kernel) x dx) [5, 6, 7, 8, 9] (.cons (by rfl) <| .cons (by rfl) <| .cons (by rfl) <| .cons (by rfl) <| .cons (by rfl) .nil) ?_
  refine ops_el fun X => ⟨rfl, ⟨_, by rfl⟩, ?_⟩
  refine GV.less (D' := ⟨lwL (some sa) (some P.a) (some P.c) (some std) (some X.o) none none none none none none none none none, cel none ++ (genRs prog w P B (started atoms0 std).1 G0 p1 m1 ++ opsRs prog w B X (started atoms0 std).2)⟩) (fun s d => d) ?_
  refine ss_cut (fun D₁ => ∃ mo, D₁ = ⟨lwL (some sa) (some P.a) (some P.c) (some std) (some X.o) none none none none none none none none none, cel (some (.v (.ref mo))) ++ (genRs prog w P B (started atoms0 std).1 G0 p1 m1 ++ (opsRs prog w B X (started atoms0 std).2 ++ [one prog w mo (.dTS (mdA (if std then runM [] (flat stdRows) else [])))]))⟩) ?_ ?_
  · refine s_assignC (i := 1) (by rfl) <| e_ifexp <| b_val <| e_loc (i := 3) (by rfl) <| t_bool ⟨fun hb => ?_, fun hb => ?_⟩
    · subst hb
      refine e_fcall 377 <| l_nil <| ol_f fn_lawStandard [] ?_
      rintro _ _ _ ⟨mo, rfl, rfl, rfl⟩
      exact ⟨⟨_, by rfl⟩, _, fun s d => d, mo, rfl⟩
    · subst hb
      exact e_dict0H (hpS prog w) fun mo => ⟨⟨_, by rfl⟩, _, fun s d => d, mo, rfl⟩
  refine w_eqe fun mo => ?_
  refine ss_cons <| s_setitem ?_
  refine e_tuple ?_
  refine l_int ?_
  refine l_str ?_
  refine l_nil ⟨[.int 1000, .str "xfy"], rfl, by simp, ?_⟩
  refine e_cell (i := 1) (by rfl) ?_
  refine e_tuple ?_
  refine l_str ?_
  refine l_str ?_
  refine l_nil ⟨[.str "infix", .str ","], rfl, by simp, ?_⟩
  have mlen : (if std then runM [] (flat stdRows) else []).length ≤ 100 := by
    have : ∀ b : Bool, (if b then runM [] (flat stdRows) else []).length ≤ 100 := by decide +kernel
    exact this std
  refine u_setH (hpS prog w) (k := ["infix", ","]) (i := 15) (by rfl) (by simp [mdA]; omega) ?_
  rw [show put_ (mdA (if std then runM [] (flat stdRows) else [])) ["infix", ","] (.d (.tuple [.int 1000, .str "xfy"])) = mdA (md0 std) from put_md _ "infix" "," (1000, "xfy")]
  clear mlen
  have hB0 := start_gb std
  have hR0 := start_rel std
  have hY0 := start_ty std
  let W : Option AV → List Str → List (Int × Int) → Ops → Md → Int → Int → List Reg := lwW prog w C.L P B X mo
  let LL : Option AV → Option AV → Option AV → Option AV → Option AV → Option AV → Option AV → Option AV → Option AV → Lc := lwL (some sa) (some P.a) (some P.c) (some std) (some X.o)
  let J : DS → Prop := LwJ prog w C.L P B X mo (LL none none none none none none none none none)
  refine GV.less (D' := ⟨LL none none none none none none none none none, W none (started atoms0 std).1 G0 (started atoms0 std).2 (md0 std) p1 m1⟩) (fun s d => d) ?_
  generalize (started atoms0 std).1 = T0 at hB0 hR0 ⊢
  generalize (started atoms0 std).2 = O0 at hR0 ⊢
  generalize md0 std = M0 at hR0 hY0 ⊢
  generalize G0 = GG at hB0 ⊢
  refine ss_cut J ?_ ?_
  · refine s_for <| e_bcall (l_cons <| e_bin <| e_int <| e_fcall 363 <| l_cons <| e_loc (i := 1) (by rfl) <| l_cons <| e_int <| l_nil <| ol_f (fn_pick P.a P.b P.figs p1 m1 10 P.hf p10 p11 (by decide)) [3, 4] ?_) kp_type
    refine PoolQ.el fun k p2 m2 k0 k1 p20 p21 => ?_
    refine o_add ?_
    obtain ⟨n, hn, hn10⟩ : ∃ n : Nat, (1 : Int) + k = n ∧ n ≤ 10 := ⟨(1 + k).toNat, by omega, by omega⟩
    rw [hn]
    refine l_nil <| ol_range fun r => ?_
    refine oi_rng (i := 16) (by rfl) (by omega) fun I => ⟨srcRng prog C I n, rfl, fun _ D' => J D', fun _ _ _ _ h => (nomatch h), ⟨⟨LL none none none none none none none none none, W none T0 GG O0 M0 p2 m2⟩, to_oS, none, T0, GG, O0, M0, p2, m2, hB0, hR0, hY0, p20, p21, rfl⟩, ?_, ?_⟩
    rotate_left
    · rintro _ hJ
      exact ⟨_, fun _ d => d, hJ⟩
    rintro j x _ hx ⟨on, T, G, O, M, pos, mx, hB, hR, hY, p0, p1, rfl⟩
    generalize hrg : (srcRng prog C I n).reg (j + 1) = rg
    refine as_name (i := 5) (by rfl) ?_
    have hC6 : 6 ≤ C.lv := by exact le_lv (by assumption) rfl
    refine ss_cons <| s_assign (i := 6) <| e_fcall 415 <| l_cons <| e_loc (i := 1) (by rfl) <| l_cons <| e_cell (i := 2) (by rfl) <| l_cons <| e_loc (i := 2) (by rfl) <| l_nil <| ol_f (fn_lawPriority P B T G pos mx hB p0 p1) [3, 4, 5, 6, 7, 8, 9, 10] ?_
    refine GenQ.el fun tp T1 G1 q1 x1 w1 B1 e1 f1 a1 b1 => ?_
    refine ⟨⟨_, by rfl⟩, ?_⟩
    refine GV.less (D' := ⟨LL (some (.d tp.py)) none none none none none none none none, W on T1 G1 O M q1 x1 ++ [rg]⟩) to_of ?_
    refine ss_cons <| s_assign (i := 7) <| e_fcall 422 <| l_cons <| e_loc (i := 1) (by rfl) <| l_cons <| e_cell (i := 2) (by rfl) <| l_cons <| e_loc (i := 2) (by rfl) <| l_nil <| ol_f (fn_lawType P B T1 G1 q1 x1 B1 a1 b1) [3, 4, 5, 6, 7, 8, 9, 10] ?_
    refine GenQ.el fun ty T2 G2 q2 x2 w2 B2 e2 f2 a2 b2 => ?_
    refine ⟨⟨_, by rfl⟩, ?_⟩
    refine GV.less (D' := ⟨LL (some (.d tp.py)) (some (.d ty.py)) none none none none none none none, W on T2 G2 O M q2 x2 ++ [rg]⟩) to_of ?_
    refine ss_cons <| s_assign (i := 8) <| e_fcall 429 <| l_cons <| e_loc (i := 1) (by rfl) <| l_cons <| e_cell (i := 2) (by rfl) <| l_cons <| e_loc (i := 2) (by rfl) <| l_nil <| ol_f (fn_lawNames P B T2 G2 q2 x2 B2 a2 b2) [3, 4, 5, 6, 7, 8, 9, 10] ?_
    refine GenQ.el fun nm T3 G3 q3 x3 w3 B3 e3 f3 a3 b3 => ?_
    refine ⟨⟨_, by rfl⟩, ?_⟩
    refine GV.less (D' := ⟨LL (some (.d tp.py)) (some (.d ty.py)) (some (.d nm.py)) none none none none none none, W on T3 G3 O M q3 x3 ++ [rg]⟩) to_of ?_
    have hR3 := hR.ext (e1.trans (e2.trans e3))
    have w2' : ty.wf TYO T3 := w2.wf.mono (fun _ h => h) e3
    have hT3 := B3.lenT
    have hG3 := B3.lenG
    obtain ⟨hsm, hML⟩ := hR3.small B3.nd
    have hRL := hR3.len B3.nd
    have hty : ty.isA = true → ty.num < T3.length := fun h => by
      obtain ⟨x, hx, _⟩ := wf_num w2' h
      exact (List.getElem?_eq_some_iff.mp hx).1
    have hnm : ∀ t ∈ namesOf nm, t.isA = true → t.num < T3.length := fun t ht h => by
      obtain ⟨x, hx, _⟩ := wf_num (wf_names w3.wf t ht) h
      exact (List.getElem?_eq_some_iff.mp hx).1
    refine ss_cons <| s_assign (i := 9) <| e_fcall 394 <| l_cons <| e_cell (i := 2) (by rfl) <| l_cons <| e_cell (i := 1) (by rfl) <| l_cons <| e_loc (i := 6) (by rfl) <| l_cons <| e_loc (i := 7) (by rfl) <| l_cons <| e_loc (i := 8) (by rfl) <| l_nil <|
      ol_f (fn_lawDue B T3 G3 M mo tp ty nm w1.fit w2.fit w3.fit (by omega) (by omega) (by omega) B3.shaped hty hnm) [5, 6, 7, 8, 9, 15] ?_
    intro av rs' nw hq
    obtain ⟨oe, he, rfl, rfl, rfl⟩ := hq.out
    clear hq
    refine ⟨⟨_, by rfl⟩, ?_⟩
    have dp : tp.dep ≤ 50 := by have := w1.dep; omega
    have dy : ty.dep ≤ 50 := by have := w2.dep; omega
    have dn : nm.dep ≤ 50 := by have := w3.dep; omega
    obtain ⟨B4, e4, f4, R4, Y4, hE, hL55⟩ := step_ok B3 hR3 hY dp dy dn w2' w3.wf he
    refine GV.less (D' := ⟨LL (some (.d tp.py)) (some (.d ty.py)) (some (.d nm.py)) (some (.d (oD T3 G3 oe))) none none none none none, W on (oT T3 G3 oe) (oG T3 G3 oe) O (oM M T3 tp ty nm oe) q3 x3 ++ [rg]⟩) to_of ?_
    have hT4 := B4.lenT
    have hG4 := B4.lenG
    refine ss_cons <| s_assign (i := 10) <| e_none ⟨⟨_, by rfl⟩, ?_⟩
    refine ss_cut (fun D₁ => D₁ = ⟨LL (some (.d tp.py)) (some (.d ty.py)) (some (.d nm.py)) (some (.d (oD T3 G3 oe))) (some (.d (oB T3 G3 oe))) none none none none, W on (oT T3 G3 oe) (oG T3 G3 oe) (oO O T3 tp ty nm oe) (oM M T3 tp ty nm oe) q3 x3 ++ [rg]⟩) ?_ ?_
    · refine s_try (Qe := fun ball rs => ball = .d (oB T3 G3 oe) ∧ rs = W on (oT T3 G3 oe) (oG T3 G3 oe) (oO O T3 tp ty nm oe) (oM M T3 tp ty nm oe) q3 x3 ++ [rg]) (i := 11) (j := 10) Ou.1 Ou.2 (by kernel_rfl) (by rfl) (by rfl) (by decide) (fun H => ?_) ?_
      · have hty4 : ty.isA = true → ty.num < (oT T3 G3 oe).length := fun h => Nat.lt_of_lt_of_le (hty h) e4.length_le
        refine ss_cons <| s_expr <| e_meth <| e_loc (i := 4) (by rfl) ⟨_, gm_inst 316 (i := 11) (by rfl), kp_K (by kernel_rfl), ?_⟩
        refine l_cons <| e_loc (i := 6) (by rfl) <| l_cons <| e_loc (i := 7) (by rfl) <| l_cons <| e_loc (i := 8) (by rfl) <| l_nil <|
          ol_fXm (fn_declare B X O (oT T3 G3 oe) (oG T3 G3 oe) tp ty nm w1.fit w2.fit w3.fit (by omega) (by omega) (hsm.mono (by decide)) B4.shaped hty4) [11, 12, 13, 14, 5, 6, 7, 8, 9] Ou.1 ?_ ?_
        · rintro _ _ _ ⟨h0, rfl, rfl, rfl⟩
          have hoe : oe = none := hE.symm.trans h0
          clear hE h0
          subst hoe
          exact ss_nil ⟨_, to_of, rfl⟩
        · rintro ball rs' ⟨er, h0, rfl, rfl⟩
          have hoe : oe = some er := hE.symm.trans h0
          clear hE h0
          subst hoe
          have ot : er.out (oT T3 G3 (some er)) (oG T3 G3 (some er)) = er.out T3 G3 := Er.out_twice T3 G3 er
          rw [ot]
          exact ⟨_, rfl, rfl, rfl⟩
      · rintro e ball rs ⟨rfl, rfl⟩
        exact ⟨⟨_, rfl⟩, _, to_of, rfl⟩
    refine w_eq ?_
    refine ss_cut (fun D₁ => D₁ = ⟨LL none none none none (some (.d (oB T3 G3 oe))) (some (.d (oB T3 G3 oe))) none none none, W on (oT T3 G3 oe) (oG T3 G3 oe) (oO O T3 tp ty nm oe) (oM M T3 tp ty nm oe) q3 x3 ++ [rg]⟩) ?_ ?_
    · refine s_assign (i := 12) <| e_ifexp <| b_cmp <| e_loc (i := 9) (by rfl) <| e_none <| o_isNone ⟨_, rfl, fun h => ?_, fun h => ?_⟩
      · rcases oD_cases T3 G3 oe with ⟨_, h2⟩ | ⟨h1, _⟩
        · refine e_none ⟨⟨_, by rfl⟩, _, ?_, rfl⟩
          rw [h2]
          exact to_of
        · rw [h1] at h; cases h
      · rcases oD_cases T3 G3 oe with ⟨h1, _⟩ | ⟨_, h2⟩
        · rw [h1] at h; cases h
        refine e_tuple ?_
        refine l_str ?_
        refine l_cons <| e_glob (a := .d (.int 16)) (by rfl) globInt ?_
        refine l_cons ?_
        refine e_tuple ?_
        refine l_cons <| e_loc (i := 9) (by rfl) ?_
        refine l_cons ?_
        refine e_tuple ?_
        refine l_str ?_
        refine l_cons <| e_glob (a := .d (.int 25)) (by rfl) globInt ?_
        refine l_nil ⟨[.str "a", .int 25], rfl, by simp, ?_⟩
        refine l_nil ⟨[oD T3 G3 oe, .tuple [.str "a", .int 25]], rfl, by simp, ?_⟩
        refine l_nil ⟨[.str "s", .int 16, .tuple [oD T3 G3 oe, .tuple [.str "a", .int 25]]], rfl, by simp, ⟨_, by rfl⟩, _, ?_, rfl⟩
        rw [h2]
        exact to_of
    refine w_eq ?_
    generalize oT T3 G3 oe = T4 at B4 R4 hT4 ⊢
    generalize oG T3 G3 oe = G4 at B4 hG4 ⊢
    generalize oO O T3 tp ty nm oe = O4 at R4 ⊢
    generalize oM M T3 tp ty nm oe = M4 at R4 Y4 ⊢
    generalize oB T3 G3 oe = bb at hL55 ⊢
    refine ss_cons <| s_if <| b_cmp <| e_loc (i := 10) (by rfl) <| e_loc (i := 12) (by rfl) <| o_ne (hL55.shaped (by decide)) (hL55.shaped (by decide)) ⟨_, rfl, fun h => ?_, fun _ => ?_⟩
    · rw [eqv_self hL55.1] at h; cases h
    refine ss_nil ?_
    refine ss_cons <| s_assignC (i := 0) (by rfl) <| e_sub ?_
    refine e_list <| l_cons <| e_str <| l_cons <| e_str <| l_cons <| e_str <| l_cons <| e_str <| l_cons <| e_str <| l_nil ⟨by decide, fun ql => ?_⟩
    refine e_fcall 363 <| l_cons <| e_loc (i := 1) (by rfl) <| l_cons <| e_int <| l_nil <| ol_f (fn_pick P.a P.b P.figs q3 x3 5 P.hf a3 b3 (by decide)) [3, 4] ?_
    refine PoolQ.el fun kn q4 x4 kn0 kn1 a4 b4 => ?_
    obtain ⟨name, hname, hnm5⟩ := pick_mem (xs := L5) kn0 kn1
    refine i_list (i := 17) (by rfl) kn0 (by omega) (x := .d (.str name)) (by show (L5.map fun x => AV.d (.str x))[kn.toNat]? = _; simp [hname]) ⟨⟨_, by rfl⟩, ?_⟩
    refine GV.less (D' := ⟨LL none none none none none none none none none, W (some (.d (.str name))) T4 G4 O4 M4 q4 x4 ++ [rg]⟩) to_of ?_
    refine ss_cons <| s_assign (i := 13) <| e_meth <| e_cell (i := 2) (by rfl) ⟨_, gm_inst 88 (i := 5) (by rfl), kp_K (by kernel_rfl), ?_⟩
    refine l_cons <| e_cell (i := 0) (by rfl) <| l_nil <| ol_f (fn_atom B T4 G4 name (by omega)) [5, 6, 7, 8, 9] ?_
    refine w_x3 ?_
    refine ⟨⟨_, by rfl⟩, ?_⟩
    have B5 := B4.addT (l5_all name hnm5)
    have R5 := R4.ext (addL_pre T4 name)
    have hx5 : (addL T4 name)[ix (addL T4 name) name]? = some name := ix_get addL_self
    generalize ix (addL T4 name) name = nn at hx5 ⊢
    generalize addL T4 name = T5 at B5 R5 hx5 ⊢
    obtain ⟨t0, t1, t2⟩ := R5.three B5.nd hx5
    refine GV.less (D' := ⟨LL none none none none none none (some (.d (.int nn))) none none, W (some (.d (.str name))) T5 G4 O4 M4 q4 x4 ++ [rg]⟩) to_of ?_
    refine ss_cons <| s_assign (i := 14) ?_
    refine e_list ?_
    refine l_cons <| e_meth <| e_loc (i := 4) (by rfl) ⟨_, gm_inst 253 (i := 11) (by rfl), kp_K (by kernel_rfl), ?_⟩
    refine l_cons <| e_loc (i := 13) (by rfl) <| l_nil <| ol_f (fn_prefix B X O4 nn) [11, 12, 13, 14] ?_
    refine w_x3 ?_
    refine GV.less (D' := ⟨LL none none none none none none (some (.d (.int nn))) none none, W (some (.d (.str name))) T5 G4 O4 M4 q4 x4 ++ [rg]⟩) (fun s d => d) ?_
    refine l_cons <| e_meth <| e_loc (i := 4) (by rfl) ⟨_, gm_inst 260 (i := 11) (by rfl), kp_K (by kernel_rfl), ?_⟩
    refine l_cons <| e_loc (i := 13) (by rfl) <| l_nil <| ol_f (fn_infix B X O4 nn) [11, 12, 13, 14] ?_
    refine w_x3 ?_
    refine GV.less (D' := ⟨LL none none none none none none (some (.d (.int nn))) none none, W (some (.d (.str name))) T5 G4 O4 M4 q4 x4 ++ [rg]⟩) (fun s d => d) ?_
    refine l_cons <| e_meth <| e_loc (i := 4) (by rfl) ⟨_, gm_inst 267 (i := 11) (by rfl), kp_K (by kernel_rfl), ?_⟩
    refine l_cons <| e_loc (i := 13) (by rfl) <| l_nil <| ol_f (fn_postfix B X O4 nn) [11, 12, 13, 14] ?_
    refine w_x3 ?_
    refine GV.less (D' := ⟨LL none none none none none none (some (.d (.int nn))) none none, W (some (.d (.str name))) T5 G4 O4 M4 q4 x4 ++ [rg]⟩) (fun s d => d) ?_
    refine l_nil ⟨by simp, fun en => ⟨⟨_, by rfl⟩, ?_⟩⟩
    let e3 : List PyData := [entD (at_ O4.P (nn : Int)), entD (at_ O4.I (nn : Int)), entD (at_ O4.Q (nn : Int))]
    let RN : List Reg := W (some (.d (.str name))) T5 G4 O4 M4 q4 x4 ++ [rg, one prog w en (.list (e3.map .d))]
    refine GV.less (D' := ⟨LL none none none none none none (some (.d (.int nn))) (some (.v (.ref en))) none, RN⟩) (fun s d => d) ?_
    refine ss_cons ?_
    refine s_assignLC (j := 15) [("name", C.L + 1 + 2), ("model", C.L + 1 + 1)] (by rfl) (by decide) (by rfl) (by decide) (by rfl) ?_
    refine e_list ?_
    refine l_cons <| e_str <| l_cons <| e_str <| l_cons <| e_str <| l_nil ⟨by decide, fun ql => ⟨ql, L3.map (fun x => .d (.str x)), 18, rfl, by rfl, by decide,
      fun k ys rs => rs = RN ++ [one prog w ql (.list (L3.map (fun x => .d (.str x))))] ∧ ys = (L3.take k).map (fun c => .d (entD (at_ M4 (c, name)))), ⟨rfl, rfl⟩, ?_, ?_, ⟨_, by rfl⟩, ?_⟩⟩
    · rintro k ys _ ⟨rfl, _⟩
      exact List.mem_append_right _ (.head _)
    · rintro CL Dl I' hCL k y ys _ hy ⟨rfl, rfl⟩
      have hC2 : (C.inn CL hCL).lv = 6 := hC
      obtain ⟨c, hc, rfl⟩ : ∃ c, L3[k]? = some c ∧ y = .d (.str c) := by
        simp only [List.getElem?_map, Option.map_eq_some_iff] at hy
        obtain ⟨c, h1, rfl⟩ := hy
        exact ⟨c, h1, rfl⟩
      refine t_nil ⟨fun _ => ?_, fun e => absurd e.symm Bool.false_ne_true⟩
      refine e_meth <| e_cell (i := 1) (by rfl) ⟨_, gm_hp (hpS prog w) (i := 15) (by rfl) PySem.F.slot_dict_get PySem.F.type_dict_get, kp_builtin, ?_⟩
      refine l_cons ?_
      refine e_tuple ?_
      refine l_cons <| e_loc (i := 0) (by rfl) <| l_cons <| e_cell (i := 0) (by rfl) <| l_nil ⟨[.str c, .str name], rfl, by simp, ?_⟩
      refine l_nil <| ol_get1H (hpS prog w) (k := [c, name]) (i := 15) (by rfl) ?_
      rw [getD_md]
      refine ⟨RN ++ [one prog w ql (.list (L3.map (fun x => .d (.str x))))], to_of, rfl, ?_⟩
      rw [List.take_add_one (i := k), hc, List.map_append]; rfl
    rintro Dl ys _ ⟨rfl, rfl⟩ _
    refine GV.less (D' := ⟨LL none none none none none none (some (.d (.int nn))) (some (.v (.ref en))) (some (.v (.ref Dl))), RN ++ [one prog w Dl (.list ([entD (at_ M4 ("prefix", name)), entD (at_ M4 ("infix", name)), entD (at_ M4 ("postfix", name))].map .d))]⟩) to_oS ?_
    have l0 := lay_ent Y4 ("prefix", name)
    have l1 := lay_ent Y4 ("infix", name)
    have l2 := lay_ent Y4 ("postfix", name)
    rw [t0, t1, t2]
    rw [t0] at l0
    rw [t1] at l1
    rw [t2] at l2
    have hen : ∀ x ∈ e3, Lay 1 x := fun x hx => by
      rcases List.mem_cons.mp hx with rfl | hx
      · exact l0
      · rcases List.mem_cons.mp hx with rfl | hx
        · exact l1
        · rw [List.mem_singleton.mp hx]; exact l2
    have hsh := lay_list hen (by decide)
    refine ss_cons <| s_if <| b_bool <| b_or <| b_cmp <| e_loc (i := 14) (by rfl) <| e_loc (i := 15) (by rfl) <| o_neL (i := 17) (j := 18) (xs := e3) (ys := e3) (by rfl) (by rfl) hsh hsh ⟨_, rfl, fun h => ?_, fun _ => ?_⟩
    · rw [eqv_list_self fun x hx => (hen x hx).1] at h; cases h
    refine b_or <| b_cmp <| e_meth <| e_loc (i := 4) (by rfl) ⟨_, gm_inst 274 (i := 11) (by rfl), kp_K (by kernel_rfl), ?_⟩
    refine l_cons <| e_loc (i := 13) (by rfl) <| l_nil <| ol_f (fn_isOperator B X O4 nn) [11, 12, 13, 14] ?_
    refine w_x3 ?_
    refine e_cmp <| e_loc (i := 15) (by rfl) <| e_list <| l_cons <| e_none <| l_cons <| e_none <| l_cons <| e_none <| l_nil ⟨by decide, fun qn => o_neL (i := 18) (j := 19) (xs := e3) (ys := [.none, .none, .none]) (by rfl) (by rfl) hsh (by decide +kernel) ?_⟩
    rw [plain_ne]
    refine o_neB ⟨_, rfl, fun h => ?_, fun _ => b_or_nil ⟨fun e => absurd e Bool.false_ne_true, fun _ => ?_⟩⟩
    · unfold isOp at h; simp at h
    exact ss_nil <| ss_nil ⟨⟨LL none none none none none none none none none, W (some (.d (.str name))) T5 G4 O4 M4 q4 x4⟩, by rw [hrg]; exact to_of, _, T5, G4, O4, M4, q4, x4, B5, R5, Y4, a4, b4, rfl⟩
  rintro _ ⟨on, T, G, O, M, pos, mx, hB, hR, hY, p0, p1, rfl⟩
  have hT := hB.lenT
  obtain ⟨hsm, hML⟩ := hR.small hB.nd
  have hRL := hR.len hB.nd
  let row : (Str × Str) × (Int × Str) → Row := fun kv => (kv.2.1, kv.2.2, ((ix T kv.1.2 : Nat) : Int))
  have hperm : (M.map row).Perm (acc O 3) := hR.rows hB.nd
  let Wp : Nat → List Reg := fun ep => [cellR prog w (C.L + 1 + 2) on, cellR prog w (C.L + 1 + 1) (some (.v (.ref mo))), cellR prog w (C.L + 1 + 0) (some (.v (.ref B.o)))] ++ (genRs prog w P B T G pos mx ++ (opsRs prog w B X O ++ [pinR prog w mo (.dTS (mdA M)) ep (kvTS (mdA M))]))
  refine ss_cons <| s_assignLCI (j := 16) [("book", C.L + 1 + 0)] (by rfl) (by decide) (by rfl) (by decide) (by rfl) (by rfl) (by decide) <| e_meth <| e_cell (i := 1) (by rfl) ⟨_, gm_hp (hpS prog w) (i := 15) (by rfl) PySem.F.slot_dict_items PySem.F.type_dict_items, kp_builtin, ?_⟩
  refine l_nil <| ol_items (i := 15) (a := mo) (by rfl) (.head _) (fun s x => by obtain ⟨xs, x1, _⟩ := (x : RO prog w s.heap mo (.dTS (mdA M))); exact x1.typeIs) fun v => ?_
  refine oi_items (i := 16) (j := 15) (by rfl) (by rfl) (fun h x => pin_TS x) fun I ep => ⟨I, mo, .dTS (mdA M), ep, kvTS (mdA M), Wp ep, rfl, to_oS, by simp [kvTS, mdA]; omega, fun k ys rs => rs = Wp ep ∧ ys = rowsA ((M.map row).take k), ⟨rfl, rfl⟩, ?_, ?_, ⟨_, by rfl⟩, ?_⟩
  · rintro k ys _ ⟨rfl, _⟩
    exact List.mem_append_right _ (List.mem_append_right _ (List.mem_append_right _ (.head _)))
  · rintro CL Dl hCL k p ys _ hp ⟨rfl, rfl⟩
    have hC2 : (C.inn CL hCL).lv = 6 := hC
    obtain ⟨kv, hkv, rfl⟩ : ∃ kv, M[k]? = some kv ∧ p = (.d (.tuple [.str kv.1.1, .str kv.1.2]), entA kv.2) := by
      simp only [kvTS, mdA, List.getElem?_map, Option.map_eq_some_iff] at hp
      obtain ⟨_, ⟨kv, h1, rfl⟩, rfl⟩ := hp
      exact ⟨kv, h1, rfl⟩
    have hm := hR.names (List.mem_of_getElem? hkv)
    refine e_tuple ?_
    refine l_cons <| e_sub <| e_loc (i := 1) (by rfl) <| e_int <| i_tuple (k := 0) (by rfl) ?_
    refine l_cons <| e_sub <| e_loc (i := 1) (by rfl) <| e_int <| i_tuple (k := 1) (by rfl) ?_
    refine l_cons <| e_meth <| e_cell (i := 2) (by rfl) ⟨_, gm_inst 88 (i := 5) (by rfl), kp_K (by kernel_rfl), ?_⟩
    refine l_cons <| e_sub <| e_loc (i := 0) (by rfl) <| e_int <| i_tuple (k := 1) (by rfl) ?_
    refine l_nil <| ol_f (fn_atom B T G kv.1.2 (by omega)) [5, 6, 7, 8, 9] ?_
    refine w_x3 ?_
    rw [addL_of_mem hm]
    refine l_nil ⟨[.int kv.2.1, .str kv.2.2, .int (ix T kv.1.2 : Nat)], rfl, by simp, Wp ep, to_of, rfl, ?_⟩
    show rowsA ((M.map row).take k) ++ [AV.d (rowP (row kv))] = rowsA ((M.map row).take (k + 1))
    rw [List.take_add_one (i := k), List.getElem?_map, hkv]; simp [rowsA]
  rintro Dl ys _ ⟨rfl, rfl⟩
  rw [show (kvTS (mdA M)).length = (M.map row).length from by simp [kvTS, mdA], List.take_length]
  have hrt : ∀ r ∈ M.map row, r.2.1 ∈ TYS := fun r hr => by
    obtain ⟨kv, hkv, rfl⟩ := List.mem_map.mp hr
    exact hY kv hkv
  have hrl : (M.map row).length = O.P.length + O.I.length + O.Q.length := by rw [List.length_map]; exact hML
  generalize M.map row = rows1 at hperm hrt hrl ⊢
  refine GV.less (D' := ⟨lwLr (some (.v (.ref Dl))) (some sa) (some P.a) (some P.c) (some std) (some X.o) none none none none none none none none none, Wp ep ++ [one prog w Dl (.list (rowsA rows1))]⟩) to_of ?_
  refine GV.less (D' := ⟨lwLr (some (.v (.ref Dl))) (some sa) (some P.a) (some P.c) (some std) (some X.o) none none none none none none none none none, W on T G O M pos mx ++ [one prog w Dl (.list (rowsA rows1))]⟩) (fun s d => Den.weak d (i := 15) (r := pinR prog w mo (.dTS (mdA M)) ep (kvTS (mdA M))) (r' := one prog w mo (.dTS (mdA M))) (by rfl) rfl fun h x => x.1) ?_
  refine ss_cons <| s_ret <| e_cmp <| e_meth <| e_loc (i := 4) (by rfl) ⟨_, gm_inst 295 (i := 11) (by rfl), kp_K (by kernel_rfl), ?_⟩
  refine l_nil <| ol_f (fn_rows B X O hRL.1 hRL.2) [11, 12, 13, 14] ?_
  rintro _ _ _ ⟨b, rows, rfl, rfl, rfl, hp1, hs1⟩
  refine e_bcall (l_cons <| e_loc (i := 16) (by rfl) <| l_nil <| ol_sorted (i := 16) (by rfl) (by omega) (by omega) fun c rows' hp2 hs2 => ?_) kp_builtin
  have er : rows' = rows := sorted3_unique hs2 hs1 (hp2.trans (hperm.trans hp1.symm))
  subst er
  have hl : ∀ x ∈ rows'.map rowP, Lay 1 x := rows_lay fun r hr => hrt r (hp2.subset hr)
  have hsh := lay_list hl (by decide)
  refine o_eqL (i := 17) (j := 18) (xs := rows'.map rowP) (ys := rows'.map rowP) (by rw [← rowsA_eq]; rfl) (by rw [← rowsA_eq]; rfl) hsh hsh ?_
  rw [eqv_list_self fun x hx => (hl x hx).1]
  exact ⟨[], [], _, .refl _, rfl, rfl⟩
end
end Mine
end
section
open PySem PySem.W PyProof.Rows
set_option maxRecDepth 100000
set_option maxHeartbeats 8000000
namespace Mine
noncomputable def KA : List Nat := [2, 3, 15, 17, 18, 20, 21, 22, 29, 30, 31, 32, 35, 42, 44, 45, 47, 48, 49, 50, 51, 54, 56, 57, 59, 60, 61, 63, 64, 66, 67, 75, 77, 78, 80, 81, 82, 84, 85, 87, 88, 89, 91, 92, 94, 95, 96, 98, 99, 101, 102, 103, 105, 106, 108, 109, 110, 112, 113, 115, 116, 117, 119, 120, 122, 123, 124, 126, 127, 129, 130, 131, 133, 134, 136, 137, 138, 140, 141, 143, 144, 145, 147, 148, 150, 151, 152, 153, 154, 155, 156, 159, 161, 162, 164, 165, 166, 168, 169, 171, 172, 173, 175, 176, 178, 179, 180, 182, 183, 185, 186, 187, 189, 190, 192, 193, 194, 196, 197, 199, 200, 201, 203, 204, 206, 207, 208, 210, 211, 213, 214, 215, 216, 217, 218, 220, 221, 223, 224, 225, 227, 228, 230, 231, 239, 240, 242, 243, 245, 246, 247, 249, 250, 252, 253, 254, 256, 257, 259, 260, 261, 263, 264, 266, 267, 268, 270, 271, 273, 274, 275, 277, 278, 280, 281, 282, 284, 285, 287, 288, 289, 291, 292, 294, 295, 296, 297, 298, 299, 300, 303, 310, 312, 313, 315, 316, 317, 319, 320, 322, 323, 324, 326, 327, 329, 330, 331, 333, 334, 336, 337, 338, 340, 341, 343, 344, 345, 346, 347, 350, 352, 353, 355, 356, 357, 359, 360, 362, 363, 364, 366, 367, 369, 370, 371, 373, 374, 376, 377, 378, 381, 382, 383, 385, 386, 388, 389, 390, 393, 394, 395, 397, 398, 400, 401, 402, 404, 405, 407, 408, 409, 411, 412, 414, 415, 416, 418, 419, 421, 422, 423, 425, 426, 428, 429, 430, 433, 434]
end Mine
namespace Mine.top
theorem tw18397530887139883770 : True := trivial
theorem tw16900427199656544559 : True := trivial
theorem tw18164388396756303480 : True := trivial
theorem tw10996937224433265937 : True := trivial
theorem tw16104615914030681952 : True := trivial
theorem tw8025738503920905074 : True := trivial
theorem tw18085771088847121727 : True := trivial
theorem tw705360758644809490 : True := trivial
theorem tw8657480035899644758 : True := trivial
theorem tw3969286963782609292 : True := trivial
theorem tw9272544492142499777 : True := trivial
theorem tw9437893007894698314 : True := trivial
theorem tw10005945817407372193 : True := trivial
theorem tw10915162052029792233 : True := trivial
theorem tw10936122117785486979 : True := trivial
theorem tw17836783524569865436 : True := trivial
theorem tw17810072253543177317 : True := trivial
theorem tw5868845118606482295 : True := trivial
theorem tw13177472732611162249 : True := trivial
theorem tw18289109515434150305 : True := trivial
theorem tw14402358008270493973 : True := trivial
theorem tw4186445540838780016 : True := trivial
theorem tw14917401599646851644 : True := trivial
theorem tw10773188271377071773 : True := trivial
theorem tw12415523145999629524 : True := trivial
theorem tw15177526630643400193 : True := trivial
theorem tw9962302188120564619 : True := trivial
theorem tw14823308797102314842 : True := trivial
theorem tw15095372191486117680 : True := trivial
theorem tw2822501910515967889 : True := trivial
theorem tw16359887908644392378 : True := trivial
theorem tw17355269125676882429 : True := trivial
theorem tw1284575025550258836 : True := trivial
theorem tw15569959144833144457 : True := trivial
theorem tw14168018189251442112 : True := trivial
theorem tw5766051744304087583 : True := trivial
theorem tw9305691244287143441 : True := trivial
theorem tw1516213087968936877 : True := trivial
theorem tw8148004212497801138 : True := trivial
theorem tw13369591340354186047 : True := trivial
theorem tw2377541652452675900 : True := trivial
theorem tw987869383939708018 : True := trivial
theorem tw6694047246710070196 : True := trivial
theorem tw17620759639134147866 : True := trivial
theorem tw3254097082911018636 : True := trivial
theorem tw7740461459972228597 : True := trivial
theorem tw8640399195822439974 : True := trivial
theorem tw5118827330378232414 : True := trivial
theorem tw12094960947251128927 : True := trivial
theorem tw14263998999751124003 : True := trivial
theorem tw7990429038631628895 : True := trivial
theorem tw13501252493785611398 : True := trivial
theorem tw6756868429301003459 : True := trivial
theorem tw6662652255960138227 : True := trivial
theorem tw12317137736924338119 : True := trivial
theorem tw5667650583090716360 : True := trivial
theorem tw17470836177267949868 : True := trivial
theorem tw16054190913257422852 : True := trivial
theorem tw17046948494117081484 : True := trivial
theorem tw17219337458794519322 : True := trivial
theorem tw14901070454687303710 : True := trivial
theorem tw15877122091014420850 : True := trivial
theorem tw4655869559712951663 : True := trivial
theorem tw12080426169559351053 : True := trivial
theorem tw16666122058527598403 : True := trivial
theorem tw17492772389151264855 : True := trivial
theorem tw2617719716777270872 : True := trivial
theorem tw1706793611546318481 : True := trivial
theorem tw5829012519600168859 : True := trivial
theorem tw13896958669275611876 : True := trivial
theorem tw4498253355057717688 : True := trivial
theorem tw10617020205504526918 : True := trivial
theorem tw3584897518013459382 : True := trivial
theorem tw53344730913325255 : True := trivial
theorem tw10797620697341660853 : True := trivial
theorem tw6749217079512962374 : True := trivial
theorem tw6572447435987645144 : True := trivial
theorem tw5915399644114372684 : True := trivial
theorem tw14399976873020721970 : True := trivial
theorem tw1900889202398478850 : True := trivial
theorem tw12012865196380796599 : True := trivial
theorem tw15361541807878343388 : True := trivial
theorem tw16713831800681072344 : True := trivial
theorem tw7743179893348639699 : True := trivial
theorem tw14747140909534839006 : True := trivial
theorem tw16795567611416646642 : True := trivial
theorem tw15878805988109762761 : True := trivial
theorem tw708234853630380328 : True := trivial
theorem tw1047907039808853306 : True := trivial
theorem tw956942650209027819 : True := trivial
theorem tw11141966352661209427 : True := trivial
theorem tw2849167335222591983 : True := trivial
theorem tw8973803690348224638 : True := trivial
theorem tw18194552166560175392 : True := trivial
theorem tw6081112921850593172 : True := trivial
theorem tw8204474986945543665 : True := trivial
theorem tw6930518751129746686 : True := trivial
theorem tw8813761850579938390 : True := trivial
theorem tw427269002284569659 : True := trivial
theorem tw594810645892935528 : True := trivial
theorem tw10987319290404115282 : True := trivial
theorem tw2249405535684624136 : True := trivial
theorem tw16719718919923625709 : True := trivial
theorem tw8263863092937893816 : True := trivial
theorem tw13370750898655102155 : True := trivial
theorem tw2007660962349395123 : True := trivial
theorem tw14851680436948445374 : True := trivial
theorem tw11133666699803404755 : True := trivial
theorem tw10956490626425055710 : True := trivial
theorem tw12622177474791663080 : True := trivial
theorem tw16878204669230926818 : True := trivial
theorem tw13420762306968818387 : True := trivial
theorem tw5088376156974544275 : True := trivial
theorem tw2514443458684651071 : True := trivial
theorem tw8679839319945467846 : True := trivial
theorem tw5225916559131626549 : True := trivial
theorem tw10195997230039290492 : True := trivial
theorem tw16885616592811714743 : True := trivial
theorem tw12425085872883035938 : True := trivial
theorem tw14286098252468757816 : True := trivial
theorem tw6885214360128481674 : True := trivial
theorem tw16550210197400561554 : True := trivial
theorem tw9229161468869434483 : True := trivial
theorem tw7557910624720293991 : True := trivial
theorem tw11199710921928265848 : True := trivial
theorem tw2665807947273092163 : True := trivial
theorem tw453181688931711583 : True := trivial
theorem tw2847958352784047137 : True := trivial
theorem tw2988451766255067171 : True := trivial
theorem tw7429413206186439793 : True := trivial
theorem tw15740088241188596515 : True := trivial
theorem tw2835187731363253809 : True := trivial
theorem tw6906291655842520137 : True := trivial
theorem tw8140125068956082859 : True := trivial
theorem tw18367679650794681301 : True := trivial
theorem tw17177869089781658578 : True := trivial
theorem tw16415559393655328363 : True := trivial
theorem tw1886144042066472794 : True := trivial
theorem tw6187478851450931391 : True := trivial
theorem tw17565814175750979855 : True := trivial
theorem tw9951221954081769418 : True := trivial
theorem tw1275901062530889299 : True := trivial
theorem tw14861896470697024400 : True := trivial
theorem tw6491118196486620199 : True := trivial
theorem tw4859757453598101857 : True := trivial
theorem tw4047667213573674445 : True := trivial
theorem tw8598144960395782539 : True := trivial
theorem tw2812155379371279736 : True := trivial
theorem tw8735323631387419056 : True := trivial
theorem tw9503340733035011235 : True := trivial
theorem tw2951243339585192856 : True := trivial
theorem tw2464713573024523455 : True := trivial
theorem tw17342085116792181814 : True := trivial
theorem tw17463505850718520338 : True := trivial
theorem tw8321918168302905379 : True := trivial
theorem tw8265191368974092141 : True := trivial
theorem tw11199532085631943738 : True := trivial
theorem tw11423202765487971197 : True := trivial
theorem tw2369445192022557226 : True := trivial
theorem tw831095340739518691 : True := trivial
theorem tw1195175773429642966 : True := trivial
theorem tw5278709424875269971 : True := trivial
theorem tw13134186033006778460 : True := trivial
theorem tw1843344800811705456 : True := trivial
theorem tw10567129059001840431 : True := trivial
theorem tw14826035006057030972 : True := trivial
theorem tw1638113669730673903 : True := trivial
theorem tw5860347150701562758 : True := trivial
theorem tw7527032243904285869 : True := trivial
theorem tw887695700811335699 : True := trivial
theorem tw8689318265317240412 : True := trivial
theorem tw1869187583165140508 : True := trivial
theorem tw5581607755468803823 : True := trivial
theorem tw620129878449983639 : True := trivial
theorem tw4117511757204851855 : True := trivial
theorem tw4205137553216949640 : True := trivial
theorem tw12535971307161669396 : True := trivial
theorem tw7250933059871147345 : True := trivial
theorem tw16439428074185983240 : True := trivial
theorem tw9614876229902214918 : True := trivial
theorem tw3474246075231452896 : True := trivial
theorem tw16782997733028217545 : True := trivial
theorem tw13822267516522204269 : True := trivial
theorem tw2126296398998916975 : True := trivial
theorem tw8139039716903228087 : True := trivial
theorem tw5889316905344633881 : True := trivial
theorem tw15092371282622821202 : True := trivial
theorem tw16123964013534891561 : True := trivial
theorem tw11520865232209809239 : True := trivial
theorem tw16273406610938067001 : True := trivial
theorem tw15058813355848621054 : True := trivial
theorem tw7855079511596107753 : True := trivial
theorem tw81815255157605957 : True := trivial
theorem tw12166907935582030026 : True := trivial
theorem tw12385144161495827662 : True := trivial
theorem tw14502225709538309166 : True := trivial
theorem tw13303987763403120937 : True := trivial
theorem tw9739860059890490050 : True := trivial
theorem tw3855276242980373810 : True := trivial
theorem tw3337584539547039419 : True := trivial
theorem tw17089494485692210459 : True := trivial
theorem tw15299407806266782574 : True := trivial
theorem tw6505410396798821541 : True := trivial
theorem tw17315540178315561739 : True := trivial
theorem tw7673058066778466091 : True := trivial
theorem tw7414872774492366064 : True := trivial
theorem tw2555065506035805374 : True := trivial
theorem tw13889309363888878346 : True := trivial
theorem tw5244899138074338376 : True := trivial
theorem tw12105128591322288922 : True := trivial
theorem tw9108098604805947806 : True := trivial
theorem tw10648311167861321448 : True := trivial
theorem tw14597223018079223185 : True := trivial
theorem tw381845443943030031 : True := trivial
theorem tw15646934709686841381 : True := trivial
theorem tw860223938195835975 : True := trivial
theorem tw6664487174759623829 : True := trivial
theorem tw139804737962012590 : True := trivial
theorem tw6286779285267259847 : True := trivial
theorem tw9759319705405543751 : True := trivial
theorem tw6333448901615975916 : True := trivial
theorem tw16840627104734473223 : True := trivial
theorem tw6898770573198911631 : True := trivial
theorem tw14459580976405569124 : True := trivial
theorem tw11466170419677230873 : True := trivial
theorem tw1142415686869020238 : True := trivial
theorem tw6473336682457920079 : True := trivial
theorem tw13345470168829271861 : True := trivial
theorem tw814325599930780420 : True := trivial
theorem tw11240886729373846589 : True := trivial
theorem tw7198060816514059695 : True := trivial
theorem tw16325430554902658873 : True := trivial
theorem tw1676862907878916244 : True := trivial
theorem tw10783980745131425670 : True := trivial
theorem tw6176384092110617959 : True := trivial
theorem tw6520327441239513222 : True := trivial
theorem tw11613256710310857696 : True := trivial
theorem tw9059672392935016618 : True := trivial
theorem tw8729362747519067210 : True := trivial
theorem tw196536941598035525 : True := trivial
theorem tw12392516345856041104 : True := trivial
theorem tw2581206410525282061 : True := trivial
theorem tw5476889619067714990 : True := trivial
theorem tw1149218181149386328 : True := trivial
theorem tw9743097575036673082 : True := trivial
theorem tw8538268897159353584 : True := trivial
theorem tw11762496359356365647 : True := trivial
theorem tw7008692893051332821 : True := trivial
theorem tw14762295962024373759 : True := trivial
theorem tw9378254376102152143 : True := trivial
theorem tw12787338502077490372 : True := trivial
theorem tw9631074621892390191 : True := trivial
theorem tw6211089042160764376 : True := trivial
theorem tw10090393231696489298 : True := trivial
theorem tw7847650389618582240 : True := trivial
theorem tw16420938139371093754 : True := trivial
theorem tw5225153198818245361 : True := trivial
theorem tw14349089067433371257 : True := trivial
theorem tw13928562000808390012 : True := trivial
theorem tw4321519831107876412 : True := trivial
theorem tw72247145696351765 : True := trivial
theorem tw15985961358823992270 : True := trivial
theorem tw8435561252592420358 : True := trivial
theorem tw877433047237710547 : True := trivial
theorem tw14390669486469195807 : True := trivial
theorem tw370947364307004932 : True := trivial
theorem tw2758071753971750899 : True := trivial
theorem tw5303079699428457377 : True := trivial
theorem tw3776753064480771068 : True := trivial
theorem tw8622502720953521162 : True := trivial
theorem tw8410488445778877200 : True := trivial
theorem tw11459358961799972967 : True := trivial
theorem tw17542608870123051758 : True := trivial
theorem tw795583310449317561 : True := trivial
theorem tw1040915598704419856 : True := trivial
theorem tw9442318146202087700 : True := trivial
theorem tw6621670593625495552 : True := trivial
theorem tw4076138812419527698 : True := trivial
theorem tw2093333464667377861 : True := trivial
theorem tw8345894832289464959 : True := trivial
theorem tw9335426496214029073 : True := trivial
theorem tw13120753694373217308 : True := trivial
theorem tw16155163154822807229 : True := trivial
theorem tw13802547742096326172 : True := trivial
theorem tw216529984938456764 : True := trivial
theorem tw2985252069258134486 : True := trivial
theorem tw7297446738713254254 : True := trivial
theorem tw4656485037274611717 : True := trivial
theorem tw16196420915677631385 : True := trivial
theorem tw2057334267981633021 : True := trivial
theorem tw12643491718579748851 : True := trivial
theorem tw5523086135645875356 : True := trivial
theorem tw18034075008235765660 : True := trivial
theorem tw1088946173253831356 : True := trivial
theorem tw12427389293880184781 : True := trivial
theorem tw14608685727046917156 : True := trivial
theorem tw4159251561096739476 : True := trivial
theorem tw105208000716104510 : True := trivial
theorem tw2924597203103170677 : True := trivial
theorem tw4299629679881509495 : True := trivial
theorem tw11582926029173025856 : True := trivial
theorem tw3976154599441133093 : True := trivial
theorem tw3561193834555079511 : True := trivial
theorem tw4597200072644226624 : True := trivial
theorem tw9366391650621772374 : True := trivial
theorem tw11845233108574324481 : True := trivial
theorem tw9063741608606530840 : True := trivial
theorem tw4784893810139332661 : True := trivial
theorem tw4671429814451907529 : True := trivial
theorem tw12318557346453588183 : True := trivial
theorem tw4213018616267185653 : True := trivial
theorem tw1732150942055357024 : True := trivial
theorem tw15918733279669447828 : True := trivial
theorem tw13706816188851595723 : True := trivial
theorem tw6624316729101989866 : True := trivial
theorem tw908825868028484722 : True := trivial
theorem tw16174758807025615021 : True := trivial
theorem tw11430207588045935325 : True := trivial
theorem tw9068506458530023791 : True := trivial
theorem tw6127594578889010139 : True := trivial
theorem tw14796646475526232899 : True := trivial
theorem tw4571971715460732019 : True := trivial
theorem tw10864713392326063847 : True := trivial
theorem tw1814787853859245837 : True := trivial
theorem tw15254643099363442306 : True := trivial
theorem tw14282377253939248939 : True := trivial
theorem tw13044034144603486326 : True := trivial
theorem tw8810280945414196856 : True := trivial
theorem tw12819366960792805191 : True := trivial
theorem tw18063644159110109576 : True := trivial
theorem tw12958502747184954254 : True := trivial
theorem tw14987219478266130788 : True := trivial
theorem tw11334350811105764591 : True := trivial
theorem tw10448899703829047738 : True := trivial
theorem tw14632489290957082403 : True := trivial
theorem tw16044733080236030384 : True := trivial
theorem tw10548783162686979305 : True := trivial
theorem tw14142502885225118848 : True := trivial
theorem tw575894324575664597 : True := trivial
theorem tw13326734554550294991 : True := trivial
theorem tw6431110157172167083 : True := trivial
theorem tw17323899518341599180 : True := trivial
theorem tw13090165191389475591 : True := trivial
theorem tw16580785732701462914 : True := trivial
theorem tw2731995056826638727 : True := trivial
theorem tw2145171640123136144 : True := trivial
theorem tw6812286434817487243 : True := trivial
theorem tw3195968871104189447 : True := trivial
theorem tw11203750815551599093 : True := trivial
theorem tw2732273902793177162 : True := trivial
theorem tw16204670001084760307 : True := trivial
theorem tw8363718466572441477 : True := trivial
theorem tw12540527436937284434 : True := trivial
theorem tw1585457916280141200 : True := trivial
theorem tw17833194346398213888 : True := trivial
theorem tw11922380849998532372 : True := trivial
theorem tw788273225186049534 : True := trivial
theorem tw9259421805112917234 : True := trivial
theorem tw3730354652608582461 : True := trivial
theorem tw16352630495959832749 : True := trivial
theorem tw8212240652046128837 : True := trivial
theorem tw14697636140705633519 : True := trivial
theorem tw14789260269991461300 : True := trivial
theorem tw2782073688633401757 : True := trivial
theorem tw7313339093194340965 : True := trivial
theorem tw17795014544551873601 : True := trivial
theorem tw13889484949932952446 : True := trivial
theorem tw18371284783138465269 : True := trivial
theorem tw342308947776675178 : True := trivial
theorem tw8694864300669457046 : True := trivial
theorem tw6919701780365589675 : True := trivial
theorem tw13705190378015050663 : True := trivial
theorem tw9382581127745807760 : True := trivial
theorem tw3195522803047326042 : True := trivial
theorem tw12342655685612074800 : True := trivial
theorem tw2867133514656366558 : True := trivial
theorem tw6189502492464219833 : True := trivial
theorem tw5969682004907312646 : True := trivial
theorem tw15240379268576122478 : True := trivial
theorem tw14611434983143301774 : True := trivial
theorem tw9800703332001039478 : True := trivial
theorem tw9851269098105209369 : True := trivial
theorem tw12926774348312068904 : True := trivial
theorem tw6438537300738474071 : True := trivial
theorem tw10006222313960134694 : True := trivial
theorem tw1492452104121835379 : True := trivial
theorem tw10801874191123338550 : True := trivial
theorem tw1245559373397905713 : True := trivial
theorem tw13264354339760550358 : True := trivial
theorem tw18008055252877512497 : True := trivial
theorem tw4713442408853163898 : True := trivial
theorem tw1617357707322924660 : True := trivial
theorem tw6370870915552960936 : True := trivial
theorem tw8143265674769528471 : True := trivial
theorem tw18245740138792012028 : True := trivial
theorem tw2218668502564051296 : True := trivial
theorem tw4166218997396506358 : True := trivial
theorem tw12718909917080609646 : True := trivial
theorem tw8523463495250067690 : True := trivial
theorem tw3261557481417251176 : True := trivial
theorem tw1400011881503588481 : True := trivial
theorem tw17555251805378815213 : True := trivial
end Mine.top
set_option Elab.async true in
open Mine in
theorem Mine.top : PySem.Challenge.rw_no0162_01.Holds := by
  w_on
  o_law
  o_head (kHook Mine.KF Mine.KA (fun _ => by kernel_rfl))
  case hw => w_witness2
  case hc =>
    intro w s0 s1 mg mb G Y fa o pm cd doc dV kV ho hd hcd hD hmg hg args vals as hpre hlay hrd hwl hlo
    have KX := kIn_of Y
    have T := G.T
    have e1 : mg "law" = some (.ref 434) := mg_of KX T.g (by kernel_rfl)
    have e2 : mg "law" = some (.ref fa) := hmg
    rw [e1] at e2
    cases e2
    clear ho hd hcd hD hmg e1
    wrow_args hpre hlay hrd hwl hlo
    rename_i ns _ _ _ _ _ _ _ sa vs _ hL _ _ _ hI _ hc63 _
    have hlen : ns.length ≤ 63 := by omega
    have bs : Bs w s1.heap := ⟨KX, ⟨mg, T.g⟩, ⟨mb, T.b, T.builtins⟩, T.nolimit⟩
    have scr : Script sa ns s1.heap := ⟨hlen, _, hL, hI⟩
    have pre : Pre (w := w) s1.heap callerA 7 [] [.v (.ref sa)] s1 [.ref sa] := ⟨bs, rfl, by decide, by decide, Nat.le_refl _, fun _ _ e => e, fun _ h => (nomatch h), List.nodup_nil, fun _ h => (nomatch h), .cons (.v _) .nil⟩
    have W := law_walk (prog := PySem.Challenge.rw_no0162_01.row.prog) sa ns s1.heap callerA s1 _ scr pre rfl
    refine wpAny_call (codeAny_mono W fun r s' q => ?_)
    cases r with
    | error e => exact q.elim
    | ok fl => cases fl with
      | ret v =>
        obtain ⟨⟨_, h', tk, rfl⟩, _, hk, av, rs', nw, hv, _, _, _, _, rfl⟩ := q
        cases hv with
        | d r => cases r with
          | bool b => exact ⟨.inl ⟨_, _, [], rfl, fun cls => by rfl, ReadsW.bool true, by wrow_post, fun _ => ⟨List.nodup_nil, fun _ hm => (nomatch hm)⟩⟩, OldK.of_keep (fun b o e => hk b o (by intro h; cases h) e), rfl, AllBare.of_eq hg⟩
      | _ => exact q.elim
end
set_option maxRecDepth 100000 in
set_option maxHeartbeats 8000000 in
theorem PySem.Challenge.cw_no0162_01_holds : PySem.Challenge.rw_no0162_01.Holds := by
  exact Mine.top
