import PyProof.Rows.All
import Wide.All
import OpenK.AllK
import Wide.FinOn
import Lean
import PySem.Challenge.RW_rh0100_01
set_option Elab.async false
set_option compiler.extract_closed false
set_option genSizeOf false
section
-- HM
open PySem PySem.W PyProof.Rows
set_option Elab.async false
set_option maxRecDepth 100000
namespace Mine
noncomputable def nthS : List Stmt → Nat → Stmt
  | [], _ => .Pass ⟨0, 0, 0, 0⟩
  | s :: _, 0 => s
  | _ :: r, n + 1 => nthS r n
noncomputable def stAt (p : Program) (n : Nat) : Stmt := nthS p.main.body n
noncomputable def fdBody : Stmt → List Stmt
  | .FunctionDef _ _ b _ _ _ _ _ _ _ => b
  | _ => []
noncomputable def clBody : Stmt → List Stmt
  | .ClassDef _ _ _ b _ _ _ _ _ _ _ => b
  | _ => []
noncomputable def stIn (p : Program) (i j : Nat) : Stmt := nthS (clBody (stAt p i)) j
noncomputable def keepB : List Bool → List Stmt → List Stmt
  | true :: r, s :: l => s :: keepB r l
  | false :: r, _ :: l => keepB r l
  | _, _ => []
noncomputable def viewP (p : Program) : Program := { p with main := { p.main with body := keepB [true, false, true, true, true, true, true, true, true, true, false, true, true, true, false, true, true, true, true, true, true, true, true, true, false, true, true, true, true, true, true, true, true, false, true, true, true] p.main.body } }
noncomputable def ob3 (P : Params) : Obj := { cls := Value.type "dict", data := Data.dict #[{ hash := PyData.keyHash P (Str.ofString "__name__"), key := Value.str (Str.ofString "__name__") 165, val := Value.str (Str.ofString "law_rh0100_01") 814 }, { hash := PyData.keyHash P (Str.ofString "__doc__"), key := Value.str (Str.ofString "__doc__") 166, val := Value.none }, { hash := PyData.keyHash P (Str.ofString "__package__"), key := Value.str (Str.ofString "__package__") 167, val := Value.none }, { hash := PyData.keyHash P (Str.ofString "__loader__"), key := Value.str (Str.ofString "__loader__") 168, val := Value.builtin "__main__.__loader__#opaque" }, { hash := PyData.keyHash P (Str.ofString "__spec__"), key := Value.str (Str.ofString "__spec__") 169, val := Value.none }, { hash := PyData.keyHash P (Str.ofString "__annotations__"), key := Value.str (Str.ofString "__annotations__") 170, val := Value.ref 6 }, { hash := PyData.keyHash P (Str.ofString "__builtins__"), key := Value.str (Str.ofString "__builtins__") 171, val := Value.ref 4 }, { hash := PyData.keyHash P (Str.ofString "__file__"), key := Value.str (Str.ofString "__file__") 173, val := Value.str (Str.ofString "/claim/cut.py") 172 }, { hash := PyData.keyHash P (Str.ofString "__cached__"), key := Value.str (Str.ofString "__cached__") 174, val := Value.none }, { hash := PyData.keyHash P (Str.ofString "_wall"), key := Value.str (Str.ofString "_wall") 193, val := Value.ref 21 }, { hash := PyData.keyHash P (Str.ofString "ClausemillError"), key := Value.str (Str.ofString "ClausemillError") 215, val := Value.ref 31 }, { hash := PyData.keyHash P (Str.ofString "PrologError"), key := Value.str (Str.ofString "PrologError") 240, val := Value.ref 51 }, { hash := PyData.keyHash P (Str.ofString "A_SYSTEM"), key := Value.str (Str.ofString "A_SYSTEM") 242, val := Value.int 25 241 }, { hash := PyData.keyHash P (Str.ofString "F_DOT"), key := Value.str (Str.ofString "F_DOT") 244, val := Value.int 0 243 }, { hash := PyData.keyHash P (Str.ofString "F_ERROR"), key := Value.str (Str.ofString "F_ERROR") 246, val := Value.int 16 245 }, { hash := PyData.keyHash P (Str.ofString "fixed_atoms"), key := Value.str (Str.ofString "fixed_atoms") 252, val := Value.ref 60 }, { hash := PyData.keyHash P (Str.ofString "fixed_functors"), key := Value.str (Str.ofString "fixed_functors") 258, val := Value.ref 67 }, { hash := PyData.keyHash P (Str.ofString "Symbols"), key := Value.str (Str.ofString "Symbols") 377, val := Value.ref 154 }, { hash := PyData.keyHash P (Str.ofString "system_error"), key := Value.str (Str.ofString "system_error") 386, val := Value.ref 165 }, { hash := PyData.keyHash P (Str.ofString "formal_of"), key := Value.str (Str.ofString "formal_of") 397, val := Value.ref 172 }, { hash := PyData.keyHash P (Str.ofString "resource_error"), key := Value.str (Str.ofString "resource_error") 405, val := Value.ref 179 }, { hash := PyData.keyHash P (Str.ofString "REF"), key := Value.str (Str.ofString "REF") 409, val := Value.int 0 408 }, { hash := PyData.keyHash P (Str.ofString "SRF"), key := Value.str (Str.ofString "SRF") 411, val := Value.int 1 410 }, { hash := PyData.keyHash P (Str.ofString "STR"), key := Value.str (Str.ofString "STR") 413, val := Value.int 2 412 }, { hash := PyData.keyHash P (Str.ofString "LIS"), key := Value.str (Str.ofString "LIS") 415, val := Value.int 3 414 }, { hash := PyData.keyHash P (Str.ofString "CON"), key := Value.str (Str.ofString "CON") 417, val := Value.int 4 416 }, { hash := PyData.keyHash P (Str.ofString "INT"), key := Value.str (Str.ofString "INT") 419, val := Value.int 5 418 }, { hash := PyData.keyHash P (Str.ofString "FUN"), key := Value.str (Str.ofString "FUN") 421, val := Value.int 6 420 }, { hash := PyData.keyHash P (Str.ofString "Cells"), key := Value.str (Str.ofString "Cells") 615, val := Value.ref 323 }, { hash := PyData.keyHash P (Str.ofString "Store"), key := Value.str (Str.ofString "Store") 689, val := Value.ref 380 }, { hash := PyData.keyHash P (Str.ofString "PairSet"), key := Value.str (Str.ofString "PairSet") 731, val := Value.ref 406 }, { hash := PyData.keyHash P (Str.ofString "push_pairs"), key := Value.str (Str.ofString "push_pairs") 744, val := Value.ref 417 }, { hash := PyData.keyHash P (Str.ofString "rank"), key := Value.str (Str.ofString "rank") 752, val := Value.ref 424 }, { hash := PyData.keyHash P (Str.ofString "order"), key := Value.str (Str.ofString "order") 760, val := Value.ref 431 }, { hash := PyData.keyHash P (Str.ofString "compare_shapes"), key := Value.str (Str.ofString "compare_shapes") 773, val := Value.ref 438 }, { hash := PyData.keyHash P (Str.ofString "compare_tops"), key := Value.str (Str.ofString "compare_tops") 784, val := Value.ref 445 }, { hash := PyData.keyHash P (Str.ofString "compare"), key := Value.str (Str.ofString "compare") 798, val := Value.ref 452 }, { hash := PyData.keyHash P (Str.ofString "merge"), key := Value.str (Str.ofString "merge") 813, val := Value.ref 459 }, { hash := PyData.keyHash P (Str.ofString "_law_pick"), key := Value.str (Str.ofString "_law_pick") 824, val := Value.ref 466 }, { hash := PyData.keyHash P (Str.ofString "_law_key"), key := Value.str (Str.ofString "_law_key") 835, val := Value.ref 473 }, { hash := PyData.keyHash P (Str.ofString "law"), key := Value.str (Str.ofString "law") 841, val := Value.ref 478 }] 41 }
noncomputable def ob59 (_ : Params) : Obj := { cls := Value.type "code", data := Data.fields #[Value.str (Str.ofString "fixed_atoms") 247, Value.str (Str.ofString "fixed_atoms") 248, Value.str (Str.ofString "/claim/cut.py") 249, Value.int 14 0, Value.int 0 0, Value.int 0 0, Value.int 0 0, Value.int 3 0, Value.ref 54, Value.bool true, Value.int 181 0, Value.ref 55, Value.none, Value.ref 56, Value.ref 57, Value.ref 58, Value.int 250 0, Value.int 14 0, Value.str (Str.ofString "/claim/cut.py") 251] }
noncomputable def ob60 (p : Program) (_ : Params) : Obj := { cls := Value.type "function", data := Data.func { name := Str.ofString "fixed_atoms", qualname := Str.ofString "fixed_atoms", params := { posonlyargs := [], args := [], vararg := none, kwonlyargs := [], kw_defaults := [], kwarg := none, defaults := [] }, body := FuncBody.stmts (fdBody (stAt p 7)), scope := { kind := ScopeKind.function, names := [], isGenerator := false, isCoroutine := false }, globals := 3, closure := [], defaults := Value.none, kwdefaults := Value.none, pyModule := Value.str (Str.ofString "clausemill.symbols") 194, code := Value.ref 59 } }
noncomputable def ob66 (_ : Params) : Obj := { cls := Value.type "code", data := Data.fields #[Value.str (Str.ofString "fixed_functors") 253, Value.str (Str.ofString "fixed_functors") 254, Value.str (Str.ofString "/claim/cut.py") 255, Value.int 16 0, Value.int 0 0, Value.int 0 0, Value.int 0 0, Value.int 3 0, Value.ref 61, Value.bool true, Value.int 181 0, Value.ref 62, Value.none, Value.ref 63, Value.ref 64, Value.ref 65, Value.int 256 0, Value.int 16 0, Value.str (Str.ofString "/claim/cut.py") 257] }
noncomputable def ob67 (p : Program) (_ : Params) : Obj := { cls := Value.type "function", data := Data.func { name := Str.ofString "fixed_functors", qualname := Str.ofString "fixed_functors", params := { posonlyargs := [], args := [], vararg := none, kwonlyargs := [], kw_defaults := [], kwarg := none, defaults := [] }, body := FuncBody.stmts (fdBody (stAt p 8)), scope := { kind := ScopeKind.function, names := [], isGenerator := false, isCoroutine := false }, globals := 3, closure := [], defaults := Value.none, kwdefaults := Value.none, pyModule := Value.str (Str.ofString "clausemill.symbols") 194, code := Value.ref 66 } }
noncomputable def ob80 (_ : Params) : Obj := { cls := Value.type "code", data := Data.fields #[Value.str (Str.ofString "__init__") 271, Value.str (Str.ofString "Symbols.__init__") 272, Value.str (Str.ofString "/claim/cut.py") 273, Value.int 20 0, Value.int 1 0, Value.int 0 0, Value.int 0 0, Value.int 3 0, Value.ref 75, Value.bool true, Value.int 181 0, Value.ref 76, Value.none, Value.ref 77, Value.ref 78, Value.ref 79, Value.int 277 0, Value.int 20 0, Value.str (Str.ofString "/claim/cut.py") 278] }
noncomputable def ob81 (p : Program) (_ : Params) : Obj := { cls := Value.type "function", data := Data.func { name := Str.ofString "__init__", qualname := Str.ofString "Symbols.__init__", params := { posonlyargs := [], args := [{ arg := Str.ofString "self", annotation := none, pos := { line := 20, col := 17, endLine := 20, endCol := 21 } }], vararg := none, kwonlyargs := [], kw_defaults := [], kwarg := none, defaults := [] }, body := FuncBody.stmts (fdBody (stIn p 9 0)), scope := { kind := ScopeKind.function, names := [(Str.ofString "self", NameKind.local), (Str.ofString "text", NameKind.local), (Str.ofString "row", NameKind.local), (Str.ofString "fixed_atoms", NameKind.globalImplicit), (Str.ofString "fixed_functors", NameKind.globalImplicit)], isGenerator := false, isCoroutine := false }, globals := 3, closure := [], defaults := Value.none, kwdefaults := Value.none, pyModule := Value.str (Str.ofString "clausemill.symbols") 194, code := Value.ref 80 } }
noncomputable def ob87 (_ : Params) : Obj := { cls := Value.type "code", data := Data.fields #[Value.str (Str.ofString "atom") 280, Value.str (Str.ofString "Symbols.atom") 281, Value.str (Str.ofString "/claim/cut.py") 282, Value.int 30 0, Value.int 2 0, Value.int 0 0, Value.int 0 0, Value.int 3 0, Value.ref 82, Value.bool true, Value.int 181 0, Value.ref 83, Value.none, Value.ref 84, Value.ref 85, Value.ref 86, Value.int 287 0, Value.int 30 0, Value.str (Str.ofString "/claim/cut.py") 288] }
noncomputable def ob88 (p : Program) (_ : Params) : Obj := { cls := Value.type "function", data := Data.func { name := Str.ofString "atom", qualname := Str.ofString "Symbols.atom", params := { posonlyargs := [], args := [{ arg := Str.ofString "self", annotation := none, pos := { line := 30, col := 13, endLine := 30, endCol := 17 } }, { arg := Str.ofString "text", annotation := none, pos := { line := 30, col := 19, endLine := 30, endCol := 23 } }], vararg := none, kwonlyargs := [], kw_defaults := [], kwarg := none, defaults := [] }, body := FuncBody.stmts (fdBody (stIn p 9 1)), scope := { kind := ScopeKind.function, names := [(Str.ofString "self", NameKind.local), (Str.ofString "text", NameKind.local), (Str.ofString "found", NameKind.local), (Str.ofString "number", NameKind.local), (Str.ofString "len", NameKind.globalImplicit)], isGenerator := false, isCoroutine := false }, globals := 3, closure := [], defaults := Value.none, kwdefaults := Value.none, pyModule := Value.str (Str.ofString "clausemill.symbols") 194, code := Value.ref 87 } }
noncomputable def ob94 (_ : Params) : Obj := { cls := Value.type "code", data := Data.fields #[Value.str (Str.ofString "text") 290, Value.str (Str.ofString "Symbols.text") 291, Value.str (Str.ofString "/claim/cut.py") 292, Value.int 39 0, Value.int 2 0, Value.int 0 0, Value.int 0 0, Value.int 3 0, Value.ref 89, Value.bool true, Value.int 181 0, Value.ref 90, Value.none, Value.ref 91, Value.ref 92, Value.ref 93, Value.int 295 0, Value.int 39 0, Value.str (Str.ofString "/claim/cut.py") 296] }
noncomputable def ob95 (p : Program) (_ : Params) : Obj := { cls := Value.type "function", data := Data.func { name := Str.ofString "text", qualname := Str.ofString "Symbols.text", params := { posonlyargs := [], args := [{ arg := Str.ofString "self", annotation := none, pos := { line := 39, col := 13, endLine := 39, endCol := 17 } }, { arg := Str.ofString "number", annotation := none, pos := { line := 39, col := 19, endLine := 39, endCol := 25 } }], vararg := none, kwonlyargs := [], kw_defaults := [], kwarg := none, defaults := [] }, body := FuncBody.stmts (fdBody (stIn p 9 2)), scope := { kind := ScopeKind.function, names := [(Str.ofString "self", NameKind.local), (Str.ofString "number", NameKind.local)], isGenerator := false, isCoroutine := false }, globals := 3, closure := [], defaults := Value.none, kwdefaults := Value.none, pyModule := Value.str (Str.ofString "clausemill.symbols") 194, code := Value.ref 94 } }
noncomputable def ob101 (_ : Params) : Obj := { cls := Value.type "code", data := Data.fields #[Value.str (Str.ofString "functor") 298, Value.str (Str.ofString "Symbols.functor") 299, Value.str (Str.ofString "/claim/cut.py") 300, Value.int 42 0, Value.int 3 0, Value.int 0 0, Value.int 0 0, Value.int 3 0, Value.ref 96, Value.bool true, Value.int 181 0, Value.ref 97, Value.none, Value.ref 98, Value.ref 99, Value.ref 100, Value.int 307 0, Value.int 42 0, Value.str (Str.ofString "/claim/cut.py") 308] }
noncomputable def ob102 (p : Program) (_ : Params) : Obj := { cls := Value.type "function", data := Data.func { name := Str.ofString "functor", qualname := Str.ofString "Symbols.functor", params := { posonlyargs := [], args := [{ arg := Str.ofString "self", annotation := none, pos := { line := 42, col := 16, endLine := 42, endCol := 20 } }, { arg := Str.ofString "atom", annotation := none, pos := { line := 42, col := 22, endLine := 42, endCol := 26 } }, { arg := Str.ofString "arity", annotation := none, pos := { line := 42, col := 28, endLine := 42, endCol := 33 } }], vararg := none, kwonlyargs := [], kw_defaults := [], kwarg := none, defaults := [] }, body := FuncBody.stmts (fdBody (stIn p 9 3)), scope := { kind := ScopeKind.function, names := [(Str.ofString "self", NameKind.local), (Str.ofString "atom", NameKind.local), (Str.ofString "arity", NameKind.local), (Str.ofString "key", NameKind.local), (Str.ofString "found", NameKind.local), (Str.ofString "number", NameKind.local), (Str.ofString "len", NameKind.globalImplicit)], isGenerator := false, isCoroutine := false }, globals := 3, closure := [], defaults := Value.none, kwdefaults := Value.none, pyModule := Value.str (Str.ofString "clausemill.symbols") 194, code := Value.ref 101 } }
noncomputable def ob108 (_ : Params) : Obj := { cls := Value.type "code", data := Data.fields #[Value.str (Str.ofString "func") 310, Value.str (Str.ofString "Symbols.func") 311, Value.str (Str.ofString "/claim/cut.py") 312, Value.int 52 0, Value.int 3 0, Value.int 0 0, Value.int 0 0, Value.int 3 0, Value.ref 103, Value.bool true, Value.int 181 0, Value.ref 104, Value.none, Value.ref 105, Value.ref 106, Value.ref 107, Value.int 316 0, Value.int 52 0, Value.str (Str.ofString "/claim/cut.py") 317] }
noncomputable def ob109 (p : Program) (_ : Params) : Obj := { cls := Value.type "function", data := Data.func { name := Str.ofString "func", qualname := Str.ofString "Symbols.func", params := { posonlyargs := [], args := [{ arg := Str.ofString "self", annotation := none, pos := { line := 52, col := 13, endLine := 52, endCol := 17 } }, { arg := Str.ofString "text", annotation := none, pos := { line := 52, col := 19, endLine := 52, endCol := 23 } }, { arg := Str.ofString "arity", annotation := none, pos := { line := 52, col := 25, endLine := 52, endCol := 30 } }], vararg := none, kwonlyargs := [], kw_defaults := [], kwarg := none, defaults := [] }, body := FuncBody.stmts (fdBody (stIn p 9 4)), scope := { kind := ScopeKind.function, names := [(Str.ofString "self", NameKind.local), (Str.ofString "text", NameKind.local), (Str.ofString "arity", NameKind.local)], isGenerator := false, isCoroutine := false }, globals := 3, closure := [], defaults := Value.none, kwdefaults := Value.none, pyModule := Value.str (Str.ofString "clausemill.symbols") 194, code := Value.ref 108 } }
noncomputable def ob115 (_ : Params) : Obj := { cls := Value.type "code", data := Data.fields #[Value.str (Str.ofString "name") 319, Value.str (Str.ofString "Symbols.name") 320, Value.str (Str.ofString "/claim/cut.py") 321, Value.int 55 0, Value.int 2 0, Value.int 0 0, Value.int 0 0, Value.int 3 0, Value.ref 110, Value.bool true, Value.int 181 0, Value.ref 111, Value.none, Value.ref 112, Value.ref 113, Value.ref 114, Value.int 324 0, Value.int 55 0, Value.str (Str.ofString "/claim/cut.py") 325] }
noncomputable def ob116 (p : Program) (_ : Params) : Obj := { cls := Value.type "function", data := Data.func { name := Str.ofString "name", qualname := Str.ofString "Symbols.name", params := { posonlyargs := [], args := [{ arg := Str.ofString "self", annotation := none, pos := { line := 55, col := 13, endLine := 55, endCol := 17 } }, { arg := Str.ofString "functor", annotation := none, pos := { line := 55, col := 19, endLine := 55, endCol := 26 } }], vararg := none, kwonlyargs := [], kw_defaults := [], kwarg := none, defaults := [] }, body := FuncBody.stmts (fdBody (stIn p 9 5)), scope := { kind := ScopeKind.function, names := [(Str.ofString "self", NameKind.local), (Str.ofString "functor", NameKind.local)], isGenerator := false, isCoroutine := false }, globals := 3, closure := [], defaults := Value.none, kwdefaults := Value.none, pyModule := Value.str (Str.ofString "clausemill.symbols") 194, code := Value.ref 115 } }
noncomputable def ob122 (_ : Params) : Obj := { cls := Value.type "code", data := Data.fields #[Value.str (Str.ofString "arity") 327, Value.str (Str.ofString "Symbols.arity") 328, Value.str (Str.ofString "/claim/cut.py") 329, Value.int 58 0, Value.int 2 0, Value.int 0 0, Value.int 0 0, Value.int 3 0, Value.ref 117, Value.bool true, Value.int 181 0, Value.ref 118, Value.none, Value.ref 119, Value.ref 120, Value.ref 121, Value.int 332 0, Value.int 58 0, Value.str (Str.ofString "/claim/cut.py") 333] }
noncomputable def ob123 (p : Program) (_ : Params) : Obj := { cls := Value.type "function", data := Data.func { name := Str.ofString "arity", qualname := Str.ofString "Symbols.arity", params := { posonlyargs := [], args := [{ arg := Str.ofString "self", annotation := none, pos := { line := 58, col := 14, endLine := 58, endCol := 18 } }, { arg := Str.ofString "functor", annotation := none, pos := { line := 58, col := 20, endLine := 58, endCol := 27 } }], vararg := none, kwonlyargs := [], kw_defaults := [], kwarg := none, defaults := [] }, body := FuncBody.stmts (fdBody (stIn p 9 6)), scope := { kind := ScopeKind.function, names := [(Str.ofString "self", NameKind.local), (Str.ofString "functor", NameKind.local)], isGenerator := false, isCoroutine := false }, globals := 3, closure := [], defaults := Value.none, kwdefaults := Value.none, pyModule := Value.str (Str.ofString "clausemill.symbols") 194, code := Value.ref 122 } }
noncomputable def ob136 (_ : Params) : Obj := { cls := Value.type "code", data := Data.fields #[Value.str (Str.ofString "count") 343, Value.str (Str.ofString "Symbols.count") 344, Value.str (Str.ofString "/claim/cut.py") 345, Value.int 64 0, Value.int 1 0, Value.int 0 0, Value.int 0 0, Value.int 3 0, Value.ref 131, Value.bool true, Value.int 181 0, Value.ref 132, Value.none, Value.ref 133, Value.ref 134, Value.ref 135, Value.int 347 0, Value.int 64 0, Value.str (Str.ofString "/claim/cut.py") 348] }
noncomputable def ob137 (p : Program) (_ : Params) : Obj := { cls := Value.type "function", data := Data.func { name := Str.ofString "count", qualname := Str.ofString "Symbols.count", params := { posonlyargs := [], args := [{ arg := Str.ofString "self", annotation := none, pos := { line := 64, col := 14, endLine := 64, endCol := 18 } }], vararg := none, kwonlyargs := [], kw_defaults := [], kwarg := none, defaults := [] }, body := FuncBody.stmts (fdBody (stIn p 9 8)), scope := { kind := ScopeKind.function, names := [(Str.ofString "self", NameKind.local), (Str.ofString "len", NameKind.globalImplicit)], isGenerator := false, isCoroutine := false }, globals := 3, closure := [], defaults := Value.none, kwdefaults := Value.none, pyModule := Value.str (Str.ofString "clausemill.symbols") 194, code := Value.ref 136 } }
noncomputable def ob153 (P : Params) : Obj := { cls := Value.type "dict", data := Data.dict #[{ hash := PyData.keyHash P (Str.ofString "__module__"), key := Value.str (Str.ofString "__module__") 266, val := Value.str (Str.ofString "clausemill.symbols") 194 }, { hash := PyData.keyHash P (Str.ofString "__firstlineno__"), key := Value.str (Str.ofString "__firstlineno__") 270, val := Value.int 18 269 }, { hash := PyData.keyHash P (Str.ofString "__init__"), key := Value.str (Str.ofString "__init__") 279, val := Value.ref 81 }, { hash := PyData.keyHash P (Str.ofString "atom"), key := Value.str (Str.ofString "atom") 289, val := Value.ref 88 }, { hash := PyData.keyHash P (Str.ofString "text"), key := Value.str (Str.ofString "text") 297, val := Value.ref 95 }, { hash := PyData.keyHash P (Str.ofString "functor"), key := Value.str (Str.ofString "functor") 309, val := Value.ref 102 }, { hash := PyData.keyHash P (Str.ofString "func"), key := Value.str (Str.ofString "func") 318, val := Value.ref 109 }, { hash := PyData.keyHash P (Str.ofString "name"), key := Value.str (Str.ofString "name") 326, val := Value.ref 116 }, { hash := PyData.keyHash P (Str.ofString "arity"), key := Value.str (Str.ofString "arity") 334, val := Value.ref 123 }, { hash := PyData.keyHash P (Str.ofString "label"), key := Value.str (Str.ofString "label") 342, val := Value.ref 130 }, { hash := PyData.keyHash P (Str.ofString "count"), key := Value.str (Str.ofString "count") 349, val := Value.ref 137 }, { hash := PyData.keyHash P (Str.ofString "functor_count"), key := Value.str (Str.ofString "functor_count") 356, val := Value.ref 144 }, { hash := PyData.keyHash P (Str.ofString "known"), key := Value.str (Str.ofString "known") 365, val := Value.ref 151 }, { hash := PyData.keyHash P (Str.ofString "__static_attributes__"), key := Value.str (Str.ofString "__static_attributes__") 370, val := Value.ref 152 }, { hash := PyData.keyHash P (Str.ofString "__dict__"), key := Value.str (Str.ofString "__dict__") 372, val := Value.ref 155 }, { hash := PyData.keyHash P (Str.ofString "__weakref__"), key := Value.str (Str.ofString "__weakref__") 374, val := Value.ref 156 }, { hash := PyData.keyHash P (Str.ofString "__doc__"), key := Value.str (Str.ofString "__doc__") 375, val := Value.none }] 4 }
noncomputable def ob154 (_ : Params) : Obj := { cls := Value.type "type", data := Data.cls { name := Str.ofString "Symbols", bases := [Value.type "object"], mro := [Value.ref 154, Value.type "object"], ns := 153, qualname := Str.ofString "Symbols" }, slots := #[none, none, some (Value.str (Str.ofString "Symbols") 259), some (Value.str (Str.ofString "Symbols") 267), some (Value.builtin "object.__new__"), some (Value.bool true)] }
noncomputable def ob155 (_ : Params) : Obj := { cls := Value.type "getset_descriptor", data := Data.fields #[Value.str (Str.ofString "__dict__") 371, Value.ref 154, Value.builtin "function.__dict__", Value.builtin "function.__dict__#set"] }
noncomputable def ob156 (_ : Params) : Obj := { cls := Value.type "getset_descriptor", data := Data.fields #[Value.str (Str.ofString "__weakref__") 373, Value.ref 154, Value.builtin "ExceptionGroup.__weakref__", Value.none] }
noncomputable def ob187 (_ : Params) : Obj := { cls := Value.type "tuple", data := Data.seq #[Value.int 100000 434] }
noncomputable def ob193 (_ : Params) : Obj := { cls := Value.type "code", data := Data.fields #[Value.str (Str.ofString "__init__") 435, Value.str (Str.ofString "Cells.__init__") 436, Value.str (Str.ofString "/claim/cut.py") 437, Value.int 92 0, Value.int 3 0, Value.int 0 0, Value.int 0 0, Value.int 3 0, Value.ref 188, Value.bool true, Value.int 181 0, Value.ref 189, Value.none, Value.ref 190, Value.ref 191, Value.ref 192, Value.int 441 0, Value.int 92 0, Value.str (Str.ofString "/claim/cut.py") 442] }
noncomputable def ob194 (p : Program) (_ : Params) : Obj := { cls := Value.type "function", data := Data.func { name := Str.ofString "__init__", qualname := Str.ofString "Cells.__init__", params := { posonlyargs := [], args := [{ arg := Str.ofString "self", annotation := none, pos := { line := 92, col := 17, endLine := 92, endCol := 21 } }, { arg := Str.ofString "symbols", annotation := none, pos := { line := 92, col := 23, endLine := 92, endCol := 30 } }, { arg := Str.ofString "max_heap", annotation := none, pos := { line := 92, col := 32, endLine := 92, endCol := 40 } }], vararg := none, kwonlyargs := [], kw_defaults := [], kwarg := none, defaults := [Expr.Constant (Const.int 100000) 0 { line := 92, col := 41, endLine := 92, endCol := 47 }] }, body := FuncBody.stmts (fdBody (stIn p 22 0)), scope := { kind := ScopeKind.function, names := [(Str.ofString "self", NameKind.local), (Str.ofString "symbols", NameKind.local), (Str.ofString "max_heap", NameKind.local)], isGenerator := false, isCoroutine := false }, globals := 3, closure := [], defaults := Value.ref 187, kwdefaults := Value.none, pyModule := Value.str (Str.ofString "clausemill.store") 406, code := Value.ref 193 } }
noncomputable def ob200 (_ : Params) : Obj := { cls := Value.type "code", data := Data.fields #[Value.str (Str.ofString "push") 444, Value.str (Str.ofString "Cells.push") 445, Value.str (Str.ofString "/claim/cut.py") 446, Value.int 101 0, Value.int 2 0, Value.int 0 0, Value.int 0 0, Value.int 3 0, Value.ref 195, Value.bool true, Value.int 181 0, Value.ref 196, Value.none, Value.ref 197, Value.ref 198, Value.ref 199, Value.int 450 0, Value.int 101 0, Value.str (Str.ofString "/claim/cut.py") 451] }
noncomputable def ob201 (p : Program) (_ : Params) : Obj := { cls := Value.type "function", data := Data.func { name := Str.ofString "push", qualname := Str.ofString "Cells.push", params := { posonlyargs := [], args := [{ arg := Str.ofString "self", annotation := none, pos := { line := 101, col := 13, endLine := 101, endCol := 17 } }, { arg := Str.ofString "cell", annotation := none, pos := { line := 101, col := 19, endLine := 101, endCol := 23 } }], vararg := none, kwonlyargs := [], kw_defaults := [], kwarg := none, defaults := [] }, body := FuncBody.stmts (fdBody (stIn p 22 1)), scope := { kind := ScopeKind.function, names := [(Str.ofString "self", NameKind.local), (Str.ofString "cell", NameKind.local), (Str.ofString "address", NameKind.local), (Str.ofString "len", NameKind.globalImplicit), (Str.ofString "resource_error", NameKind.globalImplicit)], isGenerator := false, isCoroutine := false }, globals := 3, closure := [], defaults := Value.none, kwdefaults := Value.none, pyModule := Value.str (Str.ofString "clausemill.store") 406, code := Value.ref 200 } }
noncomputable def ob207 (_ : Params) : Obj := { cls := Value.type "code", data := Data.fields #[Value.str (Str.ofString "new_var") 453, Value.str (Str.ofString "Cells.new_var") 454, Value.str (Str.ofString "/claim/cut.py") 455, Value.int 108 0, Value.int 1 0, Value.int 0 0, Value.int 0 0, Value.int 3 0, Value.ref 202, Value.bool true, Value.int 181 0, Value.ref 203, Value.none, Value.ref 204, Value.ref 205, Value.ref 206, Value.int 458 0, Value.int 108 0, Value.str (Str.ofString "/claim/cut.py") 459] }
noncomputable def ob208 (p : Program) (_ : Params) : Obj := { cls := Value.type "function", data := Data.func { name := Str.ofString "new_var", qualname := Str.ofString "Cells.new_var", params := { posonlyargs := [], args := [{ arg := Str.ofString "self", annotation := none, pos := { line := 108, col := 16, endLine := 108, endCol := 20 } }], vararg := none, kwonlyargs := [], kw_defaults := [], kwarg := none, defaults := [] }, body := FuncBody.stmts (fdBody (stIn p 22 2)), scope := { kind := ScopeKind.function, names := [(Str.ofString "self", NameKind.local), (Str.ofString "cell", NameKind.local), (Str.ofString "REF", NameKind.globalImplicit), (Str.ofString "len", NameKind.globalImplicit)], isGenerator := false, isCoroutine := false }, globals := 3, closure := [], defaults := Value.none, kwdefaults := Value.none, pyModule := Value.str (Str.ofString "clausemill.store") 406, code := Value.ref 207 } }
noncomputable def ob214 (_ : Params) : Obj := { cls := Value.type "code", data := Data.fields #[Value.str (Str.ofString "reserve") 461, Value.str (Str.ofString "Cells.reserve") 462, Value.str (Str.ofString "/claim/cut.py") 463, Value.int 113 0, Value.int 2 0, Value.int 0 0, Value.int 0 0, Value.int 3 0, Value.ref 209, Value.bool true, Value.int 181 0, Value.ref 210, Value.none, Value.ref 211, Value.ref 212, Value.ref 213, Value.int 468 0, Value.int 113 0, Value.str (Str.ofString "/claim/cut.py") 469] }
noncomputable def ob215 (p : Program) (_ : Params) : Obj := { cls := Value.type "function", data := Data.func { name := Str.ofString "reserve", qualname := Str.ofString "Cells.reserve", params := { posonlyargs := [], args := [{ arg := Str.ofString "self", annotation := none, pos := { line := 113, col := 16, endLine := 113, endCol := 20 } }, { arg := Str.ofString "count", annotation := none, pos := { line := 113, col := 22, endLine := 113, endCol := 27 } }], vararg := none, kwonlyargs := [], kw_defaults := [], kwarg := none, defaults := [] }, body := FuncBody.stmts (fdBody (stIn p 22 3)), scope := { kind := ScopeKind.function, names := [(Str.ofString "self", NameKind.local), (Str.ofString "count", NameKind.local), (Str.ofString "first", NameKind.local), (Str.ofString "step", NameKind.local), (Str.ofString "len", NameKind.globalImplicit), (Str.ofString "resource_error", NameKind.globalImplicit), (Str.ofString "range", NameKind.globalImplicit), (Str.ofString "REF", NameKind.globalImplicit)], isGenerator := false, isCoroutine := false }, globals := 3, closure := [], defaults := Value.none, kwdefaults := Value.none, pyModule := Value.str (Str.ofString "clausemill.store") 406, code := Value.ref 214 } }
noncomputable def ob228 (_ : Params) : Obj := { cls := Value.type "code", data := Data.fields #[Value.str (Str.ofString "deref") 479, Value.str (Str.ofString "Cells.deref") 480, Value.str (Str.ofString "/claim/cut.py") 481, Value.int 124 0, Value.int 2 0, Value.int 0 0, Value.int 0 0, Value.int 3 0, Value.ref 223, Value.bool true, Value.int 181 0, Value.ref 224, Value.none, Value.ref 225, Value.ref 226, Value.ref 227, Value.int 486 0, Value.int 124 0, Value.str (Str.ofString "/claim/cut.py") 487] }
noncomputable def ob229 (p : Program) (_ : Params) : Obj := { cls := Value.type "function", data := Data.func { name := Str.ofString "deref", qualname := Str.ofString "Cells.deref", params := { posonlyargs := [], args := [{ arg := Str.ofString "self", annotation := none, pos := { line := 124, col := 14, endLine := 124, endCol := 18 } }, { arg := Str.ofString "cell", annotation := none, pos := { line := 124, col := 20, endLine := 124, endCol := 24 } }], vararg := none, kwonlyargs := [], kw_defaults := [], kwarg := none, defaults := [] }, body := FuncBody.stmts (fdBody (stIn p 22 5)), scope := { kind := ScopeKind.function, names := [(Str.ofString "self", NameKind.local), (Str.ofString "cell", NameKind.local), (Str.ofString "tag", NameKind.local), (Str.ofString "found", NameKind.local), (Str.ofString "REF", NameKind.globalImplicit), (Str.ofString "SRF", NameKind.globalImplicit)], isGenerator := false, isCoroutine := false }, globals := 3, closure := [], defaults := Value.none, kwdefaults := Value.none, pyModule := Value.str (Str.ofString "clausemill.store") 406, code := Value.ref 228 } }
noncomputable def ob256 (_ : Params) : Obj := { cls := Value.type "code", data := Data.fields #[Value.str (Str.ofString "globalise") 516, Value.str (Str.ofString "Cells.globalise") 517, Value.str (Str.ofString "/claim/cut.py") 518, Value.int 154 0, Value.int 2 0, Value.int 0 0, Value.int 0 0, Value.int 3 0, Value.ref 251, Value.bool true, Value.int 181 0, Value.ref 252, Value.none, Value.ref 253, Value.ref 254, Value.ref 255, Value.int 522 0, Value.int 154 0, Value.str (Str.ofString "/claim/cut.py") 523] }
noncomputable def ob257 (p : Program) (_ : Params) : Obj := { cls := Value.type "function", data := Data.func { name := Str.ofString "globalise", qualname := Str.ofString "Cells.globalise", params := { posonlyargs := [], args := [{ arg := Str.ofString "self", annotation := none, pos := { line := 154, col := 18, endLine := 154, endCol := 22 } }, { arg := Str.ofString "cell", annotation := none, pos := { line := 154, col := 24, endLine := 154, endCol := 28 } }], vararg := none, kwonlyargs := [], kw_defaults := [], kwarg := none, defaults := [] }, body := FuncBody.stmts (fdBody (stIn p 22 9)), scope := { kind := ScopeKind.function, names := [(Str.ofString "self", NameKind.local), (Str.ofString "cell", NameKind.local), (Str.ofString "fresh", NameKind.local), (Str.ofString "SRF", NameKind.globalImplicit)], isGenerator := false, isCoroutine := false }, globals := 3, closure := [], defaults := Value.none, kwdefaults := Value.none, pyModule := Value.str (Str.ofString "clausemill.store") 406, code := Value.ref 256 } }
noncomputable def ob284 (_ : Params) : Obj := { cls := Value.type "code", data := Data.fields #[Value.str (Str.ofString "is_compound") 549, Value.str (Str.ofString "Cells.is_compound") 550, Value.str (Str.ofString "/claim/cut.py") 551, Value.int 171 0, Value.int 2 0, Value.int 0 0, Value.int 0 0, Value.int 3 0, Value.ref 279, Value.bool true, Value.int 181 0, Value.ref 280, Value.none, Value.ref 281, Value.ref 282, Value.ref 283, Value.int 554 0, Value.int 171 0, Value.str (Str.ofString "/claim/cut.py") 555] }
noncomputable def ob285 (p : Program) (_ : Params) : Obj := { cls := Value.type "function", data := Data.func { name := Str.ofString "is_compound", qualname := Str.ofString "Cells.is_compound", params := { posonlyargs := [], args := [{ arg := Str.ofString "self", annotation := none, pos := { line := 171, col := 20, endLine := 171, endCol := 24 } }, { arg := Str.ofString "cell", annotation := none, pos := { line := 171, col := 26, endLine := 171, endCol := 30 } }], vararg := none, kwonlyargs := [], kw_defaults := [], kwarg := none, defaults := [] }, body := FuncBody.stmts (fdBody (stIn p 22 13)), scope := { kind := ScopeKind.function, names := [(Str.ofString "self", NameKind.local), (Str.ofString "cell", NameKind.local), (Str.ofString "STR", NameKind.globalImplicit), (Str.ofString "LIS", NameKind.globalImplicit)], isGenerator := false, isCoroutine := false }, globals := 3, closure := [], defaults := Value.none, kwdefaults := Value.none, pyModule := Value.str (Str.ofString "clausemill.store") 406, code := Value.ref 284 } }
noncomputable def ob291 (_ : Params) : Obj := { cls := Value.type "code", data := Data.fields #[Value.str (Str.ofString "functor_of") 557, Value.str (Str.ofString "Cells.functor_of") 558, Value.str (Str.ofString "/claim/cut.py") 559, Value.int 174 0, Value.int 2 0, Value.int 0 0, Value.int 0 0, Value.int 3 0, Value.ref 286, Value.bool true, Value.int 181 0, Value.ref 287, Value.none, Value.ref 288, Value.ref 289, Value.ref 290, Value.int 563 0, Value.int 174 0, Value.str (Str.ofString "/claim/cut.py") 564] }
noncomputable def ob292 (p : Program) (_ : Params) : Obj := { cls := Value.type "function", data := Data.func { name := Str.ofString "functor_of", qualname := Str.ofString "Cells.functor_of", params := { posonlyargs := [], args := [{ arg := Str.ofString "self", annotation := none, pos := { line := 174, col := 19, endLine := 174, endCol := 23 } }, { arg := Str.ofString "cell", annotation := none, pos := { line := 174, col := 25, endLine := 174, endCol := 29 } }], vararg := none, kwonlyargs := [], kw_defaults := [], kwarg := none, defaults := [] }, body := FuncBody.stmts (fdBody (stIn p 22 14)), scope := { kind := ScopeKind.function, names := [(Str.ofString "self", NameKind.local), (Str.ofString "cell", NameKind.local), (Str.ofString "tag", NameKind.local), (Str.ofString "STR", NameKind.globalImplicit), (Str.ofString "LIS", NameKind.globalImplicit), (Str.ofString "F_DOT", NameKind.globalImplicit), (Str.ofString "CON", NameKind.globalImplicit)], isGenerator := false, isCoroutine := false }, globals := 3, closure := [], defaults := Value.none, kwdefaults := Value.none, pyModule := Value.str (Str.ofString "clausemill.store") 406, code := Value.ref 291 } }
noncomputable def ob298 (_ : Params) : Obj := { cls := Value.type "code", data := Data.fields #[Value.str (Str.ofString "width") 566, Value.str (Str.ofString "Cells.width") 567, Value.str (Str.ofString "/claim/cut.py") 568, Value.int 184 0, Value.int 2 0, Value.int 0 0, Value.int 0 0, Value.int 3 0, Value.ref 293, Value.bool true, Value.int 181 0, Value.ref 294, Value.none, Value.ref 295, Value.ref 296, Value.ref 297, Value.int 572 0, Value.int 184 0, Value.str (Str.ofString "/claim/cut.py") 573] }
noncomputable def ob299 (p : Program) (_ : Params) : Obj := { cls := Value.type "function", data := Data.func { name := Str.ofString "width", qualname := Str.ofString "Cells.width", params := { posonlyargs := [], args := [{ arg := Str.ofString "self", annotation := none, pos := { line := 184, col := 14, endLine := 184, endCol := 18 } }, { arg := Str.ofString "cell", annotation := none, pos := { line := 184, col := 20, endLine := 184, endCol := 24 } }], vararg := none, kwonlyargs := [], kw_defaults := [], kwarg := none, defaults := [] }, body := FuncBody.stmts (fdBody (stIn p 22 15)), scope := { kind := ScopeKind.function, names := [(Str.ofString "self", NameKind.local), (Str.ofString "cell", NameKind.local), (Str.ofString "tag", NameKind.local), (Str.ofString "LIS", NameKind.globalImplicit), (Str.ofString "STR", NameKind.globalImplicit)], isGenerator := false, isCoroutine := false }, globals := 3, closure := [], defaults := Value.none, kwdefaults := Value.none, pyModule := Value.str (Str.ofString "clausemill.store") 406, code := Value.ref 298 } }
noncomputable def ob305 (_ : Params) : Obj := { cls := Value.type "code", data := Data.fields #[Value.str (Str.ofString "base") 575, Value.str (Str.ofString "Cells.base") 576, Value.str (Str.ofString "/claim/cut.py") 577, Value.int 192 0, Value.int 2 0, Value.int 0 0, Value.int 0 0, Value.int 3 0, Value.ref 300, Value.bool true, Value.int 181 0, Value.ref 301, Value.none, Value.ref 302, Value.ref 303, Value.ref 304, Value.int 580 0, Value.int 192 0, Value.str (Str.ofString "/claim/cut.py") 581] }
noncomputable def ob306 (p : Program) (_ : Params) : Obj := { cls := Value.type "function", data := Data.func { name := Str.ofString "base", qualname := Str.ofString "Cells.base", params := { posonlyargs := [], args := [{ arg := Str.ofString "self", annotation := none, pos := { line := 192, col := 13, endLine := 192, endCol := 17 } }, { arg := Str.ofString "cell", annotation := none, pos := { line := 192, col := 19, endLine := 192, endCol := 23 } }], vararg := none, kwonlyargs := [], kw_defaults := [], kwarg := none, defaults := [] }, body := FuncBody.stmts (fdBody (stIn p 22 16)), scope := { kind := ScopeKind.function, names := [(Str.ofString "self", NameKind.local), (Str.ofString "cell", NameKind.local), (Str.ofString "LIS", NameKind.globalImplicit)], isGenerator := false, isCoroutine := false }, globals := 3, closure := [], defaults := Value.none, kwdefaults := Value.none, pyModule := Value.str (Str.ofString "clausemill.store") 406, code := Value.ref 305 } }
noncomputable def ob319 (_ : Params) : Obj := { cls := Value.type "code", data := Data.fields #[Value.str (Str.ofString "new_block") 592, Value.str (Str.ofString "Cells.new_block") 593, Value.str (Str.ofString "/claim/cut.py") 594, Value.int 200 0, Value.int 2 0, Value.int 0 0, Value.int 0 0, Value.int 3 0, Value.ref 314, Value.bool true, Value.int 181 0, Value.ref 315, Value.none, Value.ref 316, Value.ref 317, Value.ref 318, Value.int 598 0, Value.int 200 0, Value.str (Str.ofString "/claim/cut.py") 599] }
noncomputable def ob320 (p : Program) (_ : Params) : Obj := { cls := Value.type "function", data := Data.func { name := Str.ofString "new_block", qualname := Str.ofString "Cells.new_block", params := { posonlyargs := [], args := [{ arg := Str.ofString "self", annotation := none, pos := { line := 200, col := 18, endLine := 200, endCol := 22 } }, { arg := Str.ofString "f", annotation := none, pos := { line := 200, col := 24, endLine := 200, endCol := 25 } }], vararg := none, kwonlyargs := [], kw_defaults := [], kwarg := none, defaults := [] }, body := FuncBody.stmts (fdBody (stIn p 22 18)), scope := { kind := ScopeKind.function, names := [(Str.ofString "self", NameKind.local), (Str.ofString "f", NameKind.local), (Str.ofString "start", NameKind.local), (Str.ofString "F_DOT", NameKind.globalImplicit), (Str.ofString "LIS", NameKind.globalImplicit), (Str.ofString "FUN", NameKind.globalImplicit), (Str.ofString "STR", NameKind.globalImplicit)], isGenerator := false, isCoroutine := false }, globals := 3, closure := [], defaults := Value.none, kwdefaults := Value.none, pyModule := Value.str (Str.ofString "clausemill.store") 406, code := Value.ref 319 } }
noncomputable def ob322 (P : Params) : Obj := { cls := Value.type "dict", data := Data.dict #[{ hash := PyData.keyHash P (Str.ofString "__module__"), key := Value.str (Str.ofString "__module__") 429, val := Value.str (Str.ofString "clausemill.store") 406 }, { hash := PyData.keyHash P (Str.ofString "__firstlineno__"), key := Value.str (Str.ofString "__firstlineno__") 433, val := Value.int 90 432 }, { hash := PyData.keyHash P (Str.ofString "__init__"), key := Value.str (Str.ofString "__init__") 443, val := Value.ref 194 }, { hash := PyData.keyHash P (Str.ofString "push"), key := Value.str (Str.ofString "push") 452, val := Value.ref 201 }, { hash := PyData.keyHash P (Str.ofString "new_var"), key := Value.str (Str.ofString "new_var") 460, val := Value.ref 208 }, { hash := PyData.keyHash P (Str.ofString "reserve"), key := Value.str (Str.ofString "reserve") 470, val := Value.ref 215 }, { hash := PyData.keyHash P (Str.ofString "trim"), key := Value.str (Str.ofString "trim") 478, val := Value.ref 222 }, { hash := PyData.keyHash P (Str.ofString "deref"), key := Value.str (Str.ofString "deref") 488, val := Value.ref 229 }, { hash := PyData.keyHash P (Str.ofString "is_unbound"), key := Value.str (Str.ofString "is_unbound") 496, val := Value.ref 236 }, { hash := PyData.keyHash P (Str.ofString "bind"), key := Value.str (Str.ofString "bind") 506, val := Value.ref 243 }, { hash := PyData.keyHash P (Str.ofString "bind_pair"), key := Value.str (Str.ofString "bind_pair") 515, val := Value.ref 250 }, { hash := PyData.keyHash P (Str.ofString "globalise"), key := Value.str (Str.ofString "globalise") 524, val := Value.ref 257 }, { hash := PyData.keyHash P (Str.ofString "mark"), key := Value.str (Str.ofString "mark") 531, val := Value.ref 264 }, { hash := PyData.keyHash P (Str.ofString "undo_to"), key := Value.str (Str.ofString "undo_to") 539, val := Value.ref 271 }, { hash := PyData.keyHash P (Str.ofString "stack_put"), key := Value.str (Str.ofString "stack_put") 548, val := Value.ref 278 }, { hash := PyData.keyHash P (Str.ofString "is_compound"), key := Value.str (Str.ofString "is_compound") 556, val := Value.ref 285 }, { hash := PyData.keyHash P (Str.ofString "functor_of"), key := Value.str (Str.ofString "functor_of") 565, val := Value.ref 292 }, { hash := PyData.keyHash P (Str.ofString "width"), key := Value.str (Str.ofString "width") 574, val := Value.ref 299 }, { hash := PyData.keyHash P (Str.ofString "base"), key := Value.str (Str.ofString "base") 582, val := Value.ref 306 }, { hash := PyData.keyHash P (Str.ofString "arg"), key := Value.str (Str.ofString "arg") 591, val := Value.ref 313 }, { hash := PyData.keyHash P (Str.ofString "new_block"), key := Value.str (Str.ofString "new_block") 600, val := Value.ref 320 }, { hash := PyData.keyHash P (Str.ofString "__static_attributes__"), key := Value.str (Str.ofString "__static_attributes__") 608, val := Value.ref 321 }, { hash := PyData.keyHash P (Str.ofString "__dict__"), key := Value.str (Str.ofString "__dict__") 610, val := Value.ref 324 }, { hash := PyData.keyHash P (Str.ofString "__weakref__"), key := Value.str (Str.ofString "__weakref__") 612, val := Value.ref 325 }, { hash := PyData.keyHash P (Str.ofString "__doc__"), key := Value.str (Str.ofString "__doc__") 613, val := Value.none }] 4 }
noncomputable def ob323 (_ : Params) : Obj := { cls := Value.type "type", data := Data.cls { name := Str.ofString "Cells", bases := [Value.type "object"], mro := [Value.ref 323, Value.type "object"], ns := 322, qualname := Str.ofString "Cells", subclasses := [Value.ref 380] }, slots := #[none, none, some (Value.str (Str.ofString "Cells") 422), some (Value.str (Str.ofString "Cells") 430), some (Value.builtin "object.__new__"), some (Value.bool true)] }
noncomputable def ob324 (_ : Params) : Obj := { cls := Value.type "getset_descriptor", data := Data.fields #[Value.str (Str.ofString "__dict__") 609, Value.ref 323, Value.builtin "function.__dict__", Value.builtin "function.__dict__#set"] }
noncomputable def ob325 (_ : Params) : Obj := { cls := Value.type "getset_descriptor", data := Data.fields #[Value.str (Str.ofString "__weakref__") 611, Value.ref 323, Value.builtin "ExceptionGroup.__weakref__", Value.none] }
noncomputable def ob340 (_ : Params) : Obj := { cls := Value.type "code", data := Data.fields #[Value.str (Str.ofString "new_struct") 628, Value.str (Str.ofString "Store.new_struct") 629, Value.str (Str.ofString "/claim/cut.py") 630, Value.int 208 0, Value.int 3 0, Value.int 0 0, Value.int 0 0, Value.int 3 0, Value.ref 335, Value.bool true, Value.int 181 0, Value.ref 336, Value.none, Value.ref 337, Value.ref 338, Value.ref 339, Value.int 639 0, Value.int 208 0, Value.str (Str.ofString "/claim/cut.py") 640] }
noncomputable def ob341 (p : Program) (_ : Params) : Obj := { cls := Value.type "function", data := Data.func { name := Str.ofString "new_struct", qualname := Str.ofString "Store.new_struct", params := { posonlyargs := [], args := [{ arg := Str.ofString "self", annotation := none, pos := { line := 208, col := 19, endLine := 208, endCol := 23 } }, { arg := Str.ofString "f", annotation := none, pos := { line := 208, col := 25, endLine := 208, endCol := 26 } }, { arg := Str.ofString "cells", annotation := none, pos := { line := 208, col := 28, endLine := 208, endCol := 33 } }], vararg := none, kwonlyargs := [], kw_defaults := [], kwarg := none, defaults := [] }, body := FuncBody.stmts (fdBody (stIn p 23 0)), scope := { kind := ScopeKind.function, names := [(Str.ofString "self", NameKind.local), (Str.ofString "f", NameKind.local), (Str.ofString "cells", NameKind.local), (Str.ofString "values", NameKind.local), (Str.ofString "cell", NameKind.local), (Str.ofString "made", NameKind.local), (Str.ofString "place", NameKind.local), (Str.ofString "value", NameKind.local), (Str.ofString "len", NameKind.globalImplicit), (Str.ofString "CON", NameKind.globalImplicit)], isGenerator := false, isCoroutine := false }, globals := 3, closure := [], defaults := Value.none, kwdefaults := Value.none, pyModule := Value.str (Str.ofString "clausemill.store") 406, code := Value.ref 340 } }
noncomputable def ob379 (P : Params) : Obj := { cls := Value.type "dict", data := Data.dict #[{ hash := PyData.keyHash P (Str.ofString "__module__"), key := Value.str (Str.ofString "__module__") 623, val := Value.str (Str.ofString "clausemill.store") 406 }, { hash := PyData.keyHash P (Str.ofString "__firstlineno__"), key := Value.str (Str.ofString "__firstlineno__") 627, val := Value.int 206 626 }, { hash := PyData.keyHash P (Str.ofString "new_struct"), key := Value.str (Str.ofString "new_struct") 641, val := Value.ref 341 }, { hash := PyData.keyHash P (Str.ofString "build_list"), key := Value.str (Str.ofString "build_list") 650, val := Value.ref 349 }, { hash := PyData.keyHash P (Str.ofString "list_cells"), key := Value.str (Str.ofString "list_cells") 658, val := Value.ref 356 }, { hash := PyData.keyHash P (Str.ofString "put_term"), key := Value.str (Str.ofString "put_term") 667, val := Value.ref 363 }, { hash := PyData.keyHash P (Str.ofString "whole_size"), key := Value.str (Str.ofString "whole_size") 676, val := Value.ref 370 }, { hash := PyData.keyHash P (Str.ofString "take_term"), key := Value.str (Str.ofString "take_term") 685, val := Value.ref 377 }, { hash := PyData.keyHash P (Str.ofString "__static_attributes__"), key := Value.str (Str.ofString "__static_attributes__") 686, val := Value.ref 378 }, { hash := PyData.keyHash P (Str.ofString "__doc__"), key := Value.str (Str.ofString "__doc__") 687, val := Value.none }] 2 }
noncomputable def ob380 (_ : Params) : Obj := { cls := Value.type "type", data := Data.cls { name := Str.ofString "Store", bases := [Value.ref 323], mro := [Value.ref 380, Value.ref 323, Value.type "object"], ns := 379, qualname := Str.ofString "Store" }, slots := #[some (Value.ref 328), none, some (Value.str (Str.ofString "Store") 616), some (Value.str (Str.ofString "Store") 624), some (Value.builtin "object.__new__"), some (Value.bool true)] }
noncomputable def ob395 (_ : Params) : Obj := { cls := Value.type "code", data := Data.fields #[Value.str (Str.ofString "__init__") 704, Value.str (Str.ofString "PairSet.__init__") 705, Value.str (Str.ofString "/claim/cut.py") 706, Value.int 238 0, Value.int 2 0, Value.int 0 0, Value.int 0 0, Value.int 3 0, Value.ref 390, Value.bool true, Value.int 181 0, Value.ref 391, Value.none, Value.ref 392, Value.ref 393, Value.ref 394, Value.int 709 0, Value.int 238 0, Value.str (Str.ofString "/claim/cut.py") 710] }
noncomputable def ob396 (p : Program) (_ : Params) : Obj := { cls := Value.type "function", data := Data.func { name := Str.ofString "__init__", qualname := Str.ofString "PairSet.__init__", params := { posonlyargs := [], args := [{ arg := Str.ofString "self", annotation := none, pos := { line := 238, col := 17, endLine := 238, endCol := 21 } }, { arg := Str.ofString "store", annotation := none, pos := { line := 238, col := 23, endLine := 238, endCol := 28 } }], vararg := none, kwonlyargs := [], kw_defaults := [], kwarg := none, defaults := [] }, body := FuncBody.stmts (fdBody (stIn p 25 0)), scope := { kind := ScopeKind.function, names := [(Str.ofString "self", NameKind.local), (Str.ofString "store", NameKind.local), (Str.ofString "len", NameKind.globalImplicit), (Str.ofString "set", NameKind.globalImplicit)], isGenerator := false, isCoroutine := false }, globals := 3, closure := [], defaults := Value.none, kwdefaults := Value.none, pyModule := Value.str (Str.ofString "clausemill.unify") 690, code := Value.ref 395 } }
noncomputable def ob402 (_ : Params) : Obj := { cls := Value.type "code", data := Data.fields #[Value.str (Str.ofString "add") 712, Value.str (Str.ofString "PairSet.add") 713, Value.str (Str.ofString "/claim/cut.py") 714, Value.int 242 0, Value.int 3 0, Value.int 0 0, Value.int 0 0, Value.int 3 0, Value.ref 397, Value.bool true, Value.int 181 0, Value.ref 398, Value.none, Value.ref 399, Value.ref 400, Value.ref 401, Value.int 719 0, Value.int 242 0, Value.str (Str.ofString "/claim/cut.py") 720] }
noncomputable def ob403 (p : Program) (_ : Params) : Obj := { cls := Value.type "function", data := Data.func { name := Str.ofString "add", qualname := Str.ofString "PairSet.add", params := { posonlyargs := [], args := [{ arg := Str.ofString "self", annotation := none, pos := { line := 242, col := 12, endLine := 242, endCol := 16 } }, { arg := Str.ofString "left", annotation := none, pos := { line := 242, col := 18, endLine := 242, endCol := 22 } }, { arg := Str.ofString "right", annotation := none, pos := { line := 242, col := 24, endLine := 242, endCol := 29 } }], vararg := none, kwonlyargs := [], kw_defaults := [], kwarg := none, defaults := [] }, body := FuncBody.stmts (fdBody (stIn p 25 1)), scope := { kind := ScopeKind.function, names := [(Str.ofString "self", NameKind.local), (Str.ofString "left", NameKind.local), (Str.ofString "right", NameKind.local), (Str.ofString "number", NameKind.local)], isGenerator := false, isCoroutine := false }, globals := 3, closure := [], defaults := Value.none, kwdefaults := Value.none, pyModule := Value.str (Str.ofString "clausemill.unify") 690, code := Value.ref 402 } }
noncomputable def ob405 (P : Params) : Obj := { cls := Value.type "dict", data := Data.dict #[{ hash := PyData.keyHash P (Str.ofString "__module__"), key := Value.str (Str.ofString "__module__") 699, val := Value.str (Str.ofString "clausemill.unify") 690 }, { hash := PyData.keyHash P (Str.ofString "__firstlineno__"), key := Value.str (Str.ofString "__firstlineno__") 703, val := Value.int 236 702 }, { hash := PyData.keyHash P (Str.ofString "__init__"), key := Value.str (Str.ofString "__init__") 711, val := Value.ref 396 }, { hash := PyData.keyHash P (Str.ofString "add"), key := Value.str (Str.ofString "add") 721, val := Value.ref 403 }, { hash := PyData.keyHash P (Str.ofString "__static_attributes__"), key := Value.str (Str.ofString "__static_attributes__") 724, val := Value.ref 404 }, { hash := PyData.keyHash P (Str.ofString "__dict__"), key := Value.str (Str.ofString "__dict__") 726, val := Value.ref 407 }, { hash := PyData.keyHash P (Str.ofString "__weakref__"), key := Value.str (Str.ofString "__weakref__") 728, val := Value.ref 408 }, { hash := PyData.keyHash P (Str.ofString "__doc__"), key := Value.str (Str.ofString "__doc__") 729, val := Value.none }] 4 }
noncomputable def ob406 (_ : Params) : Obj := { cls := Value.type "type", data := Data.cls { name := Str.ofString "PairSet", bases := [Value.type "object"], mro := [Value.ref 406, Value.type "object"], ns := 405, qualname := Str.ofString "PairSet" }, slots := #[none, none, some (Value.str (Str.ofString "PairSet") 692), some (Value.str (Str.ofString "PairSet") 700), some (Value.builtin "object.__new__"), some (Value.bool true)] }
noncomputable def ob407 (_ : Params) : Obj := { cls := Value.type "getset_descriptor", data := Data.fields #[Value.str (Str.ofString "__dict__") 725, Value.ref 406, Value.builtin "function.__dict__", Value.builtin "function.__dict__#set"] }
noncomputable def ob408 (_ : Params) : Obj := { cls := Value.type "getset_descriptor", data := Data.fields #[Value.str (Str.ofString "__weakref__") 727, Value.ref 406, Value.builtin "ExceptionGroup.__weakref__", Value.none] }
noncomputable def ob416 (_ : Params) : Obj := { cls := Value.type "code", data := Data.fields #[Value.str (Str.ofString "push_pairs") 732, Value.str (Str.ofString "push_pairs") 733, Value.str (Str.ofString "/claim/cut.py") 734, Value.int 248 0, Value.int 4 0, Value.int 0 0, Value.int 0 0, Value.int 3 0, Value.ref 411, Value.bool true, Value.int 181 0, Value.ref 412, Value.none, Value.ref 413, Value.ref 414, Value.ref 415, Value.int 742 0, Value.int 248 0, Value.str (Str.ofString "/claim/cut.py") 743] }
noncomputable def ob417 (p : Program) (_ : Params) : Obj := { cls := Value.type "function", data := Data.func { name := Str.ofString "push_pairs", qualname := Str.ofString "push_pairs", params := { posonlyargs := [], args := [{ arg := Str.ofString "store", annotation := none, pos := { line := 248, col := 15, endLine := 248, endCol := 20 } }, { arg := Str.ofString "left", annotation := none, pos := { line := 248, col := 22, endLine := 248, endCol := 26 } }, { arg := Str.ofString "right", annotation := none, pos := { line := 248, col := 28, endLine := 248, endCol := 33 } }, { arg := Str.ofString "work", annotation := none, pos := { line := 248, col := 35, endLine := 248, endCol := 39 } }], vararg := none, kwonlyargs := [], kw_defaults := [], kwarg := none, defaults := [] }, body := FuncBody.stmts (fdBody (stAt p 26)), scope := { kind := ScopeKind.function, names := [(Str.ofString "store", NameKind.local), (Str.ofString "left", NameKind.local), (Str.ofString "right", NameKind.local), (Str.ofString "work", NameKind.local), (Str.ofString "left_place", NameKind.local), (Str.ofString "right_place", NameKind.local), (Str.ofString "step", NameKind.local), (Str.ofString "range", NameKind.globalImplicit)], isGenerator := false, isCoroutine := false }, globals := 3, closure := [], defaults := Value.none, kwdefaults := Value.none, pyModule := Value.str (Str.ofString "clausemill.unify") 690, code := Value.ref 416 } }
noncomputable def ob423 (_ : Params) : Obj := { cls := Value.type "code", data := Data.fields #[Value.str (Str.ofString "rank") 745, Value.str (Str.ofString "rank") 746, Value.str (Str.ofString "/claim/cut.py") 747, Value.int 253 0, Value.int 1 0, Value.int 0 0, Value.int 0 0, Value.int 3 0, Value.ref 418, Value.bool true, Value.int 181 0, Value.ref 419, Value.none, Value.ref 420, Value.ref 421, Value.ref 422, Value.int 750 0, Value.int 253 0, Value.str (Str.ofString "/claim/cut.py") 751] }
noncomputable def ob424 (p : Program) (_ : Params) : Obj := { cls := Value.type "function", data := Data.func { name := Str.ofString "rank", qualname := Str.ofString "rank", params := { posonlyargs := [], args := [{ arg := Str.ofString "cell", annotation := none, pos := { line := 253, col := 9, endLine := 253, endCol := 13 } }], vararg := none, kwonlyargs := [], kw_defaults := [], kwarg := none, defaults := [] }, body := FuncBody.stmts (fdBody (stAt p 27)), scope := { kind := ScopeKind.function, names := [(Str.ofString "cell", NameKind.local), (Str.ofString "tag", NameKind.local), (Str.ofString "INT", NameKind.globalImplicit), (Str.ofString "CON", NameKind.globalImplicit), (Str.ofString "STR", NameKind.globalImplicit), (Str.ofString "LIS", NameKind.globalImplicit)], isGenerator := false, isCoroutine := false }, globals := 3, closure := [], defaults := Value.none, kwdefaults := Value.none, pyModule := Value.str (Str.ofString "clausemill.unify") 690, code := Value.ref 423 } }
noncomputable def ob430 (_ : Params) : Obj := { cls := Value.type "code", data := Data.fields #[Value.str (Str.ofString "order") 753, Value.str (Str.ofString "order") 754, Value.str (Str.ofString "/claim/cut.py") 755, Value.int 262 0, Value.int 2 0, Value.int 0 0, Value.int 0 0, Value.int 3 0, Value.ref 425, Value.bool true, Value.int 181 0, Value.ref 426, Value.none, Value.ref 427, Value.ref 428, Value.ref 429, Value.int 758 0, Value.int 262 0, Value.str (Str.ofString "/claim/cut.py") 759] }
noncomputable def ob431 (p : Program) (_ : Params) : Obj := { cls := Value.type "function", data := Data.func { name := Str.ofString "order", qualname := Str.ofString "order", params := { posonlyargs := [], args := [{ arg := Str.ofString "left", annotation := none, pos := { line := 262, col := 10, endLine := 262, endCol := 14 } }, { arg := Str.ofString "right", annotation := none, pos := { line := 262, col := 16, endLine := 262, endCol := 21 } }], vararg := none, kwonlyargs := [], kw_defaults := [], kwarg := none, defaults := [] }, body := FuncBody.stmts (fdBody (stAt p 28)), scope := { kind := ScopeKind.function, names := [(Str.ofString "left", NameKind.local), (Str.ofString "right", NameKind.local)], isGenerator := false, isCoroutine := false }, globals := 3, closure := [], defaults := Value.none, kwdefaults := Value.none, pyModule := Value.str (Str.ofString "clausemill.unify") 690, code := Value.ref 430 } }
noncomputable def ob437 (_ : Params) : Obj := { cls := Value.type "code", data := Data.fields #[Value.str (Str.ofString "compare_shapes") 761, Value.str (Str.ofString "compare_shapes") 762, Value.str (Str.ofString "/claim/cut.py") 763, Value.int 268 0, Value.int 3 0, Value.int 0 0, Value.int 0 0, Value.int 3 0, Value.ref 432, Value.bool true, Value.int 181 0, Value.ref 433, Value.none, Value.ref 434, Value.ref 435, Value.ref 436, Value.int 771 0, Value.int 268 0, Value.str (Str.ofString "/claim/cut.py") 772] }
noncomputable def ob438 (p : Program) (_ : Params) : Obj := { cls := Value.type "function", data := Data.func { name := Str.ofString "compare_shapes", qualname := Str.ofString "compare_shapes", params := { posonlyargs := [], args := [{ arg := Str.ofString "store", annotation := none, pos := { line := 268, col := 19, endLine := 268, endCol := 24 } }, { arg := Str.ofString "left", annotation := none, pos := { line := 268, col := 26, endLine := 268, endCol := 30 } }, { arg := Str.ofString "right", annotation := none, pos := { line := 268, col := 32, endLine := 268, endCol := 37 } }], vararg := none, kwonlyargs := [], kw_defaults := [], kwarg := none, defaults := [] }, body := FuncBody.stmts (fdBody (stAt p 29)), scope := { kind := ScopeKind.function, names := [(Str.ofString "store", NameKind.local), (Str.ofString "left", NameKind.local), (Str.ofString "right", NameKind.local), (Str.ofString "symbols", NameKind.local), (Str.ofString "f", NameKind.local), (Str.ofString "g", NameKind.local), (Str.ofString "result", NameKind.local), (Str.ofString "order", NameKind.globalImplicit)], isGenerator := false, isCoroutine := false }, globals := 3, closure := [], defaults := Value.none, kwdefaults := Value.none, pyModule := Value.str (Str.ofString "clausemill.unify") 690, code := Value.ref 437 } }
noncomputable def ob444 (_ : Params) : Obj := { cls := Value.type "code", data := Data.fields #[Value.str (Str.ofString "compare_tops") 774, Value.str (Str.ofString "compare_tops") 775, Value.str (Str.ofString "/claim/cut.py") 776, Value.int 278 0, Value.int 3 0, Value.int 0 0, Value.int 0 0, Value.int 3 0, Value.ref 439, Value.bool true, Value.int 181 0, Value.ref 440, Value.none, Value.ref 441, Value.ref 442, Value.ref 443, Value.int 782 0, Value.int 278 0, Value.str (Str.ofString "/claim/cut.py") 783] }
noncomputable def ob445 (p : Program) (_ : Params) : Obj := { cls := Value.type "function", data := Data.func { name := Str.ofString "compare_tops", qualname := Str.ofString "compare_tops", params := { posonlyargs := [], args := [{ arg := Str.ofString "store", annotation := none, pos := { line := 278, col := 17, endLine := 278, endCol := 22 } }, { arg := Str.ofString "left", annotation := none, pos := { line := 278, col := 24, endLine := 278, endCol := 28 } }, { arg := Str.ofString "right", annotation := none, pos := { line := 278, col := 30, endLine := 278, endCol := 35 } }], vararg := none, kwonlyargs := [], kw_defaults := [], kwarg := none, defaults := [] }, body := FuncBody.stmts (fdBody (stAt p 30)), scope := { kind := ScopeKind.function, names := [(Str.ofString "store", NameKind.local), (Str.ofString "left", NameKind.local), (Str.ofString "right", NameKind.local), (Str.ofString "kind", NameKind.local), (Str.ofString "result", NameKind.local), (Str.ofString "rank", NameKind.globalImplicit), (Str.ofString "order", NameKind.globalImplicit), (Str.ofString "compare_shapes", NameKind.globalImplicit)], isGenerator := false, isCoroutine := false }, globals := 3, closure := [], defaults := Value.none, kwdefaults := Value.none, pyModule := Value.str (Str.ofString "clausemill.unify") 690, code := Value.ref 444 } }
noncomputable def ob451 (_ : Params) : Obj := { cls := Value.type "code", data := Data.fields #[Value.str (Str.ofString "compare") 785, Value.str (Str.ofString "compare") 786, Value.str (Str.ofString "/claim/cut.py") 787, Value.int 290 0, Value.int 3 0, Value.int 0 0, Value.int 0 0, Value.int 3 0, Value.ref 446, Value.bool true, Value.int 181 0, Value.ref 447, Value.none, Value.ref 448, Value.ref 449, Value.ref 450, Value.int 796 0, Value.int 290 0, Value.str (Str.ofString "/claim/cut.py") 797] }
noncomputable def ob452 (p : Program) (_ : Params) : Obj := { cls := Value.type "function", data := Data.func { name := Str.ofString "compare", qualname := Str.ofString "compare", params := { posonlyargs := [], args := [{ arg := Str.ofString "store", annotation := none, pos := { line := 290, col := 12, endLine := 290, endCol := 17 } }, { arg := Str.ofString "c1", annotation := none, pos := { line := 290, col := 19, endLine := 290, endCol := 21 } }, { arg := Str.ofString "c2", annotation := none, pos := { line := 290, col := 23, endLine := 290, endCol := 25 } }], vararg := none, kwonlyargs := [], kw_defaults := [], kwarg := none, defaults := [] }, body := FuncBody.stmts (fdBody (stAt p 31)), scope := { kind := ScopeKind.function, names := [(Str.ofString "store", NameKind.local), (Str.ofString "c1", NameKind.local), (Str.ofString "c2", NameKind.local), (Str.ofString "met", NameKind.local), (Str.ofString "work", NameKind.local), (Str.ofString "left", NameKind.local), (Str.ofString "right", NameKind.local), (Str.ofString "result", NameKind.local), (Str.ofString "PairSet", NameKind.globalImplicit), (Str.ofString "len", NameKind.globalImplicit), (Str.ofString "compare_tops", NameKind.globalImplicit), (Str.ofString "push_pairs", NameKind.globalImplicit)], isGenerator := false, isCoroutine := false }, globals := 3, closure := [], defaults := Value.none, kwdefaults := Value.none, pyModule := Value.str (Str.ofString "clausemill.unify") 690, code := Value.ref 451 } }
noncomputable def ob458 (_ : Params) : Obj := { cls := Value.type "code", data := Data.fields #[Value.str (Str.ofString "merge") 799, Value.str (Str.ofString "merge") 800, Value.str (Str.ofString "/claim/cut.py") 801, Value.int 305 0, Value.int 5 0, Value.int 0 0, Value.int 0 0, Value.int 3 0, Value.ref 453, Value.bool true, Value.int 181 0, Value.ref 454, Value.none, Value.ref 455, Value.ref 456, Value.ref 457, Value.int 811 0, Value.int 305 0, Value.str (Str.ofString "/claim/cut.py") 812] }
noncomputable def ob459 (p : Program) (_ : Params) : Obj := { cls := Value.type "function", data := Data.func { name := Str.ofString "merge", qualname := Str.ofString "merge", params := { posonlyargs := [], args := [{ arg := Str.ofString "store", annotation := none, pos := { line := 305, col := 10, endLine := 305, endCol := 15 } }, { arg := Str.ofString "keys", annotation := none, pos := { line := 305, col := 17, endLine := 305, endCol := 21 } }, { arg := Str.ofString "left", annotation := none, pos := { line := 305, col := 23, endLine := 305, endCol := 27 } }, { arg := Str.ofString "right", annotation := none, pos := { line := 305, col := 29, endLine := 305, endCol := 34 } }, { arg := Str.ofString "unique", annotation := none, pos := { line := 305, col := 36, endLine := 305, endCol := 42 } }], vararg := none, kwonlyargs := [], kw_defaults := [], kwarg := none, defaults := [] }, body := FuncBody.stmts (fdBody (stAt p 32)), scope := { kind := ScopeKind.function, names := [(Str.ofString "store", NameKind.local), (Str.ofString "keys", NameKind.local), (Str.ofString "left", NameKind.local), (Str.ofString "right", NameKind.local), (Str.ofString "unique", NameKind.local), (Str.ofString "merged", NameKind.local), (Str.ofString "i", NameKind.local), (Str.ofString "j", NameKind.local), (Str.ofString "result", NameKind.local), (Str.ofString "len", NameKind.globalImplicit), (Str.ofString "compare", NameKind.globalImplicit)], isGenerator := false, isCoroutine := false }, globals := 3, closure := [], defaults := Value.none, kwdefaults := Value.none, pyModule := Value.str (Str.ofString "clausemill.unify") 690, code := Value.ref 458 } }
noncomputable def ob465 (_ : Params) : Obj := { cls := Value.type "code", data := Data.fields #[Value.str (Str.ofString "_law_pick") 816, Value.str (Str.ofString "_law_pick") 817, Value.str (Str.ofString "/claim/cut.py") 818, Value.int 323 0, Value.int 2 0, Value.int 0 0, Value.int 0 0, Value.int 3 0, Value.ref 460, Value.bool true, Value.int 181 0, Value.ref 461, Value.none, Value.ref 462, Value.ref 463, Value.ref 464, Value.int 822 0, Value.int 323 0, Value.str (Str.ofString "/claim/cut.py") 823] }
noncomputable def ob466 (p : Program) (_ : Params) : Obj := { cls := Value.type "function", data := Data.func { name := Str.ofString "_law_pick", qualname := Str.ofString "_law_pick", params := { posonlyargs := [], args := [{ arg := Str.ofString "urn", annotation := none, pos := { line := 323, col := 14, endLine := 323, endCol := 17 } }, { arg := Str.ofString "faces", annotation := none, pos := { line := 323, col := 19, endLine := 323, endCol := 24 } }], vararg := none, kwonlyargs := [], kw_defaults := [], kwarg := none, defaults := [] }, body := FuncBody.stmts (fdBody (stAt p 34)), scope := { kind := ScopeKind.function, names := [(Str.ofString "urn", NameKind.local), (Str.ofString "faces", NameKind.local), (Str.ofString "face", NameKind.local), (Str.ofString "len", NameKind.globalImplicit), (Str.ofString "abs", NameKind.globalImplicit), (Str.ofString "int", NameKind.globalImplicit)], isGenerator := false, isCoroutine := false }, globals := 3, closure := [], defaults := Value.none, kwdefaults := Value.none, pyModule := Value.str (Str.ofString "law_rh0100_01") 814, code := Value.ref 465 } }
noncomputable def ob472 (_ : Params) : Obj := { cls := Value.type "code", data := Data.fields #[Value.str (Str.ofString "_law_key") 825, Value.str (Str.ofString "_law_key") 826, Value.str (Str.ofString "/claim/cut.py") 827, Value.int 330 0, Value.int 5 0, Value.int 0 0, Value.int 0 0, Value.int 3 0, Value.ref 467, Value.bool true, Value.int 181 0, Value.ref 468, Value.none, Value.ref 469, Value.ref 470, Value.ref 471, Value.int 833 0, Value.int 330 0, Value.str (Str.ofString "/claim/cut.py") 834] }
noncomputable def ob473 (p : Program) (_ : Params) : Obj := { cls := Value.type "function", data := Data.func { name := Str.ofString "_law_key", qualname := Str.ofString "_law_key", params := { posonlyargs := [], args := [{ arg := Str.ofString "heap_cells", annotation := none, pos := { line := 330, col := 13, endLine := 330, endCol := 23 } }, { arg := Str.ofString "book", annotation := none, pos := { line := 330, col := 25, endLine := 330, endCol := 29 } }, { arg := Str.ofString "level", annotation := none, pos := { line := 330, col := 31, endLine := 330, endCol := 36 } }, { arg := Str.ofString "low", annotation := none, pos := { line := 330, col := 38, endLine := 330, endCol := 41 } }, { arg := Str.ofString "gap", annotation := none, pos := { line := 330, col := 43, endLine := 330, endCol := 46 } }], vararg := none, kwonlyargs := [], kw_defaults := [], kwarg := none, defaults := [] }, body := FuncBody.stmts (fdBody (stAt p 35)), scope := { kind := ScopeKind.function, names := [(Str.ofString "heap_cells", NameKind.local), (Str.ofString "book", NameKind.local), (Str.ofString "level", NameKind.local), (Str.ofString "low", NameKind.local), (Str.ofString "gap", NameKind.local), (Str.ofString "REF", NameKind.globalImplicit), (Str.ofString "INT", NameKind.globalImplicit), (Str.ofString "CON", NameKind.globalImplicit), (Str.ofString "F_DOT", NameKind.globalImplicit)], isGenerator := false, isCoroutine := false }, globals := 3, closure := [], defaults := Value.none, kwdefaults := Value.none, pyModule := Value.str (Str.ofString "law_rh0100_01") 814, code := Value.ref 472 } }
noncomputable def KFp (p : Program) (P : Params) : Frag := (nat_lit 3, ob3 P) :: (nat_lit 59, ob59 P) :: (nat_lit 60, ob60 p P) :: (nat_lit 66, ob66 P) :: (nat_lit 67, ob67 p P) :: (nat_lit 80, ob80 P) :: (nat_lit 81, ob81 p P) :: (nat_lit 87, ob87 P) :: (nat_lit 88, ob88 p P) :: (nat_lit 94, ob94 P) :: (nat_lit 95, ob95 p P) :: (nat_lit 101, ob101 P) :: (nat_lit 102, ob102 p P) :: (nat_lit 108, ob108 P) :: (nat_lit 109, ob109 p P) :: (nat_lit 115, ob115 P) :: (nat_lit 116, ob116 p P) :: (nat_lit 122, ob122 P) :: (nat_lit 123, ob123 p P) :: (nat_lit 136, ob136 P) :: (nat_lit 137, ob137 p P) :: (nat_lit 153, ob153 P) :: (nat_lit 154, ob154 P) :: (nat_lit 155, ob155 P) :: (nat_lit 156, ob156 P) :: (nat_lit 187, ob187 P) :: (nat_lit 193, ob193 P) :: (nat_lit 194, ob194 p P) :: (nat_lit 200, ob200 P) :: (nat_lit 201, ob201 p P) :: (nat_lit 207, ob207 P) :: (nat_lit 208, ob208 p P) :: (nat_lit 214, ob214 P) :: (nat_lit 215, ob215 p P) :: (nat_lit 228, ob228 P) :: (nat_lit 229, ob229 p P) :: (nat_lit 256, ob256 P) :: (nat_lit 257, ob257 p P) :: (nat_lit 284, ob284 P) :: (nat_lit 285, ob285 p P) :: (nat_lit 291, ob291 P) :: (nat_lit 292, ob292 p P) :: (nat_lit 298, ob298 P) :: (nat_lit 299, ob299 p P) :: (nat_lit 305, ob305 P) :: (nat_lit 306, ob306 p P) :: (nat_lit 319, ob319 P) :: (nat_lit 320, ob320 p P) :: (nat_lit 322, ob322 P) :: (nat_lit 323, ob323 P) :: (nat_lit 324, ob324 P) :: (nat_lit 325, ob325 P) :: (nat_lit 340, ob340 P) :: (nat_lit 341, ob341 p P) :: (nat_lit 379, ob379 P) :: (nat_lit 380, ob380 P) :: (nat_lit 395, ob395 P) :: (nat_lit 396, ob396 p P) :: (nat_lit 402, ob402 P) :: (nat_lit 403, ob403 p P) :: (nat_lit 405, ob405 P) :: (nat_lit 406, ob406 P) :: (nat_lit 407, ob407 P) :: (nat_lit 408, ob408 P) :: (nat_lit 416, ob416 P) :: (nat_lit 417, ob417 p P) :: (nat_lit 423, ob423 P) :: (nat_lit 424, ob424 p P) :: (nat_lit 430, ob430 P) :: (nat_lit 431, ob431 p P) :: (nat_lit 437, ob437 P) :: (nat_lit 438, ob438 p P) :: (nat_lit 444, ob444 P) :: (nat_lit 445, ob445 p P) :: (nat_lit 451, ob451 P) :: (nat_lit 452, ob452 p P) :: (nat_lit 458, ob458 P) :: (nat_lit 459, ob459 p P) :: (nat_lit 465, ob465 P) :: (nat_lit 466, ob466 p P) :: (nat_lit 472, ob472 P) :: (nat_lit 473, ob473 p P) :: []
noncomputable def KF (P : Params) : Frag := (nat_lit 3, ob3 P) :: (nat_lit 59, ob59 P) :: (nat_lit 60, ob60 PySem.Challenge.pw_rh0100_01 P) :: (nat_lit 66, ob66 P) :: (nat_lit 67, ob67 PySem.Challenge.pw_rh0100_01 P) :: (nat_lit 80, ob80 P) :: (nat_lit 81, ob81 PySem.Challenge.pw_rh0100_01 P) :: (nat_lit 87, ob87 P) :: (nat_lit 88, ob88 PySem.Challenge.pw_rh0100_01 P) :: (nat_lit 94, ob94 P) :: (nat_lit 95, ob95 PySem.Challenge.pw_rh0100_01 P) :: (nat_lit 101, ob101 P) :: (nat_lit 102, ob102 PySem.Challenge.pw_rh0100_01 P) :: (nat_lit 108, ob108 P) :: (nat_lit 109, ob109 PySem.Challenge.pw_rh0100_01 P) :: (nat_lit 115, ob115 P) :: (nat_lit 116, ob116 PySem.Challenge.pw_rh0100_01 P) :: (nat_lit 122, ob122 P) :: (nat_lit 123, ob123 PySem.Challenge.pw_rh0100_01 P) :: (nat_lit 136, ob136 P) :: (nat_lit 137, ob137 PySem.Challenge.pw_rh0100_01 P) :: (nat_lit 153, ob153 P) :: (nat_lit 154, ob154 P) :: (nat_lit 155, ob155 P) :: (nat_lit 156, ob156 P) :: (nat_lit 187, ob187 P) :: (nat_lit 193, ob193 P) :: (nat_lit 194, ob194 PySem.Challenge.pw_rh0100_01 P) :: (nat_lit 200, ob200 P) :: (nat_lit 201, ob201 PySem.Challenge.pw_rh0100_01 P) :: (nat_lit 207, ob207 P) :: (nat_lit 208, ob208 PySem.Challenge.pw_rh0100_01 P) :: (nat_lit 214, ob214 P) :: (nat_lit 215, ob215 PySem.Challenge.pw_rh0100_01 P) :: (nat_lit 228, ob228 P) :: (nat_lit 229, ob229 PySem.Challenge.pw_rh0100_01 P) :: (nat_lit 256, ob256 P) :: (nat_lit 257, ob257 PySem.Challenge.pw_rh0100_01 P) :: (nat_lit 284, ob284 P) :: (nat_lit 285, ob285 PySem.Challenge.pw_rh0100_01 P) :: (nat_lit 291, ob291 P) :: (nat_lit 292, ob292 PySem.Challenge.pw_rh0100_01 P) :: (nat_lit 298, ob298 P) :: (nat_lit 299, ob299 PySem.Challenge.pw_rh0100_01 P) :: (nat_lit 305, ob305 P) :: (nat_lit 306, ob306 PySem.Challenge.pw_rh0100_01 P) :: (nat_lit 319, ob319 P) :: (nat_lit 320, ob320 PySem.Challenge.pw_rh0100_01 P) :: (nat_lit 322, ob322 P) :: (nat_lit 323, ob323 P) :: (nat_lit 324, ob324 P) :: (nat_lit 325, ob325 P) :: (nat_lit 340, ob340 P) :: (nat_lit 341, ob341 PySem.Challenge.pw_rh0100_01 P) :: (nat_lit 379, ob379 P) :: (nat_lit 380, ob380 P) :: (nat_lit 395, ob395 P) :: (nat_lit 396, ob396 PySem.Challenge.pw_rh0100_01 P) :: (nat_lit 402, ob402 P) :: (nat_lit 403, ob403 PySem.Challenge.pw_rh0100_01 P) :: (nat_lit 405, ob405 P) :: (nat_lit 406, ob406 P) :: (nat_lit 407, ob407 P) :: (nat_lit 408, ob408 P) :: (nat_lit 416, ob416 P) :: (nat_lit 417, ob417 PySem.Challenge.pw_rh0100_01 P) :: (nat_lit 423, ob423 P) :: (nat_lit 424, ob424 PySem.Challenge.pw_rh0100_01 P) :: (nat_lit 430, ob430 P) :: (nat_lit 431, ob431 PySem.Challenge.pw_rh0100_01 P) :: (nat_lit 437, ob437 P) :: (nat_lit 438, ob438 PySem.Challenge.pw_rh0100_01 P) :: (nat_lit 444, ob444 P) :: (nat_lit 445, ob445 PySem.Challenge.pw_rh0100_01 P) :: (nat_lit 451, ob451 P) :: (nat_lit 452, ob452 PySem.Challenge.pw_rh0100_01 P) :: (nat_lit 458, ob458 P) :: (nat_lit 459, ob459 PySem.Challenge.pw_rh0100_01 P) :: (nat_lit 465, ob465 P) :: (nat_lit 466, ob466 PySem.Challenge.pw_rh0100_01 P) :: (nat_lit 472, ob472 P) :: (nat_lit 473, ob473 PySem.Challenge.pw_rh0100_01 P) :: []
noncomputable def KAs : List Addr := 3 :: 59 :: 60 :: 66 :: 67 :: 80 :: 81 :: 87 :: 88 :: 94 :: 95 :: 101 :: 102 :: 108 :: 109 :: 115 :: 116 :: 122 :: 123 :: 136 :: 137 :: 153 :: 154 :: 155 :: 156 :: 187 :: 193 :: 194 :: 200 :: 201 :: 207 :: 208 :: 214 :: 215 :: 228 :: 229 :: 256 :: 257 :: 284 :: 285 :: 291 :: 292 :: 298 :: 299 :: 305 :: 306 :: 319 :: 320 :: 322 :: 323 :: 324 :: 325 :: 340 :: 341 :: 379 :: 380 :: 395 :: 396 :: 402 :: 403 :: 405 :: 406 :: 407 :: 408 :: 416 :: 417 :: 423 :: 424 :: 430 :: 431 :: 437 :: 438 :: 444 :: 445 :: 451 :: 452 :: 458 :: 459 :: 465 :: 466 :: 472 :: 473 :: []

noncomputable def envT (p : Program) : Env := { scope := p.main.scope, locals := mainNs, globals := mainNs, cells := [], code := .ref 13, frame := some 14 }
noncomputable def q11 (_ : Params) : Obj := { cls := Value.type "tuple", data := Data.seq #[] }
noncomputable def q12 (_ : Params) : Obj := { cls := Value.none, data := Data.fields #[] }
noncomputable def q13 (_ : Params) : Obj := { cls := Value.type "code", data := Data.fields #[Value.str (Str.ofString "<module>") 182, Value.str (Str.ofString "<module>") 183, Value.str (Str.ofString "/claim/cut.py") 184, Value.int 1 0, Value.int 0 0, Value.int 0 0, Value.int 0 0, Value.int 0 0, Value.ref 11, Value.bool false, Value.int 181 0, Value.ref 12, Value.none, Value.none, Value.none, Value.none, Value.int 185 0, Value.int 1 0, Value.str (Str.ofString "/claim/cut.py") 186] }
noncomputable def q14 (_ : Params) : Obj := { cls := Value.type "frame", data := Data.plain, slots := #[some (Value.ref 13), some (Value.ref 3), some (Value.ref 3), none, some (Value.str (Str.ofString "__main__") 164), none, some (Value.ref 0)] }
noncomputable def heap0 (P : Params) : Heap := ⟨⟨[boot_o_0 P, boot_o_1 P, boot_o_2 P, boot_o_3 P, boot_o_4 P, boot_o_5 P, boot_o_6 P, boot_o_7 P, boot_o_8 P, boot_o_9 P, boot_o_10 P, q11 P, q12 P, q13 P, q14 P]⟩, {}⟩
noncomputable def tree0 (P : Params) : BT :=
  BT.node (boot_o_0 P)
    (BT.node (boot_o_1 P)
      (BT.node (boot_o_3 P) (BT.node (boot_o_7 P) BT.nil BT.nil) (BT.node (q11 P) BT.nil BT.nil))
      (BT.node (boot_o_5 P) (BT.node (boot_o_9 P) BT.nil BT.nil) (BT.node (q13 P) BT.nil BT.nil)))
    (BT.node (boot_o_2 P)
      (BT.node (boot_o_4 P) (BT.node (boot_o_8 P) BT.nil BT.nil) (BT.node (q12 P) BT.nil BT.nil))
      (BT.node (boot_o_6 P) (BT.node (boot_o_10 P) BT.nil BT.nil) (BT.node (q14 P) BT.nil BT.nil)))
noncomputable def pos0 : Pos := ⟨0, 0, 0, 0⟩
noncomputable def codeT (p : Program) : Code := .body (behindTheImports p) (envT p)
noncomputable def S0 (w : World) (os : OsState) : Shared := ⟨boot_heap w.params, #[], boot_drawn, boot_toks, os⟩
noncomputable def Sa (w : World) (os : OsState) : Shared := ⟨heap0 w.params, #[], {}, 187, os⟩
noncomputable def SbT (w : World) (os : OsState) : SharedT := ⟨tree0 w.params, 15, {}, #[], {}, 187, os⟩


theorem pre_run (w : World) (os : OsState) : topGo treeTable PySem.Challenge.pw_rh0100_01 w 11 (some (.ref 6)) 12 (S0 w os) (topStub PySem.Challenge.pw_rh0100_01) =
    some (Sa w os, ⟨denote treeTable (codeT PySem.Challenge.pw_rh0100_01), codeT PySem.Challenge.pw_rh0100_01, pos0, [topFrame pos0]⟩) := by
  rw [PySem.W.Fast.te15667345088766844465, PySem.W.Fast.te14364793385576792824, PySem.W.Fast.te11892475500146522536]
  kernel_rfl
theorem block_run (w : World) (os : OsState) : segRun treeTable PySem.Challenge.pw_rh0100_01 w 11 (some (.ref 6)) 1 1 (Sa w os) (blockOf (behindTheImports PySem.Challenge.pw_rh0100_01) (envT PySem.Challenge.pw_rh0100_01) (codeT PySem.Challenge.pw_rh0100_01) pos0 [topFrame pos0]) =
    some (.next, (SbT w os).abs, codeT PySem.Challenge.pw_rh0100_01, pos0) := by
  rw [PySem.W.Fast.te14374325043358763698, PySem.W.Fast.te14364793385576792824]
  kernel_rfl

noncomputable abbrev Gate (p : Program) (w : World) (s : Shared) : Bool := staticsOk (importedModules p.main.body) (boot_heap w.params) s.heap && namesBound p s.heap && gensDone s && laidKept (boot_heap w.params) s.heap
noncomputable abbrev Xt (p : Program) (s : Shared) : Bool := xlAt (viewP p) [] s && recOk (RowW.records (OpenRow.toRowW (OpenLaw.row PySem.Challenge.rw_rh0100_01))) s

theorem main_run (w : World) (os : OsState) :
    (segRunT treeTable PySem.Challenge.pw_rh0100_01 w 11 (some (.ref 6)) 1 3300 (SbT w os) (piecesOf (behindTheImports PySem.Challenge.pw_rh0100_01) (envT PySem.Challenge.pw_rh0100_01) (codeT PySem.Challenge.pw_rh0100_01) pos0 [topFrame pos0])).map
      (fun r => (r.1, r.2.2.1, r.2.2.2, r.2.1.os, Gate PySem.Challenge.pw_rh0100_01 w r.2.1.abs, openSeen (viewP PySem.Challenge.pw_rh0100_01) [Str.ofString "Store"] (importedModules PySem.Challenge.pw_rh0100_01.main.body) (Xt PySem.Challenge.pw_rh0100_01) true r.2.1.abs, KAs.map r.2.1.abs.heap.get?)) =
    some (Flow.next, codeT PySem.Challenge.pw_rh0100_01, ⟨340, 0, 378, 53⟩, os, true, openGood (viewP PySem.Challenge.pw_rh0100_01) [Str.ofString "Store"], (KFp PySem.Challenge.pw_rh0100_01 w.params).map fun p => some p.2) := by
  rw [PySem.W.Fast.te10110043849684766642, PySem.W.Fast.te14364793385576792824, PySem.W.Fast.te4187177175401517315, PySem.W.Fast.te5923862056798008813]
  kernel_rfl
end Mine
end
section
-- H2
open PySem PySem.W PyProof.Rows PySem.Calls
set_option Elab.async false
set_option maxRecDepth 100000
namespace Mine
theorem fin_run (p : Program) (w : World) (s : Shared) (pos : Pos) : topRun treeTable p w 11 (some (.ref 6)) 2 s (restOf [] (envT p) (codeT p) pos [topFrame pos0]) = some s := by
  obtain ⟨heap, gens, drawn, toks, os⟩ := s
  rfl
theorem boot_is (w : World) : (fencedOpening treeTable PySem.Challenge.pw_rh0100_01 w 5000).map (fun s => (s.heap, s.gens, s.drawn, s.toks)) = some (boot_heap w.params, #[], boot_drawn, boot_toks) :=
  boot_open rfl rfl (fun _ => rfl) w
theorem size_is (w : World) : ((boot_heap w.params).isNs mainGlobals && (#[] : Array GenState).size == 0, (boot_heap w.params).objs.size, (boot_heap w.params).nsMap mainGlobals "__annotations__") = (true, 11, some (Value.ref 6)) := by
  kernel_rfl

theorem whole_run (w : World) (os : OsState) : ∃ s₁ : Shared, topRun treeTable PySem.Challenge.pw_rh0100_01 w 11 (some (.ref 6)) 5000 (S0 w os) (topStub PySem.Challenge.pw_rh0100_01) = some s₁ ∧
    Gate PySem.Challenge.pw_rh0100_01 w s₁ = true ∧ openSeen (viewP PySem.Challenge.pw_rh0100_01) [Str.ofString "Store"] (importedModules PySem.Challenge.pw_rh0100_01.main.body) (Xt PySem.Challenge.pw_rh0100_01) true s₁ = openGood (viewP PySem.Challenge.pw_rh0100_01) [Str.ofString "Store"] ∧
    KAs.map s₁.heap.get? = (KFp PySem.Challenge.pw_rh0100_01 w.params).map fun p => some p.2 := by
  obtain ⟨⟨f, sT, c, q⟩, hr, he⟩ := Option.map_eq_some_iff.mp (main_run w os)
  simp only [Prod.mk.injEq] at he
  obtain ⟨rfl, rfl, rfl, e4, e5, e6, e7⟩ := he
  refine ⟨sT.abs, ?_, e5, e6, e7⟩
  have h1 := piece_app (rest := []) (segRun_of hr) (fin_run PySem.Challenge.pw_rh0100_01 w sT.abs ⟨340, 0, 378, 53⟩)
  rw [List.append_nil] at h1
  have h2 := piece_block (block_run w os) h1
  have h3 := go_top (pre_run w os) h2
  exact topRun_mono 1685 _ _ _ _ h3

theorem left : LeftO PySem.Challenge.pw_rh0100_01 (viewP PySem.Challenge.pw_rh0100_01) [Str.ofString "Store"] (Xt PySem.Challenge.pw_rh0100_01) (fun s => KAs.map s.heap.get?) (fun w => (KF w.params).map fun p => some p.2) 5000 := by
  intro w
  obtain ⟨⟨hp, gs, dr, tk, os⟩, e, e'⟩ := Option.map_eq_some_iff.mp (boot_is w)
  simp only [Prod.mk.injEq] at e'
  obtain ⟨rfl, rfl, rfl, rfl⟩ := e'
  have hz := size_is w
  simp only [Prod.mk.injEq] at hz
  obtain ⟨z1, z2, z3⟩ := hz
  obtain ⟨s₁, r1, r2, r3, r4⟩ := whole_run w os
  unfold openEnds
  rw [e, Option.bind_some]
  have t : topFrom treeTable PySem.Challenge.pw_rh0100_01 w 5000 ⟨boot_heap w.params, #[], boot_drawn, boot_toks, os⟩ = some s₁ := by
    unfold topFrom
    dsimp only
    rw [z1, z2, z3]
    have r1' : topRun treeTable PySem.Challenge.pw_rh0100_01 w 11 (some (.ref 6)) 5000 ⟨boot_heap w.params, #[], boot_drawn, boot_toks, os⟩ (topStub PySem.Challenge.pw_rh0100_01) = some s₁ := r1
    rw [r1']
    have r2' : (staticsOk (importedModules PySem.Challenge.pw_rh0100_01.main.body) (boot_heap w.params) s₁.heap && namesBound PySem.Challenge.pw_rh0100_01 s₁.heap && gensDone s₁ && laidKept (boot_heap w.params) s₁.heap) = true := r2
    dsimp only [Option.bind_some]
    rw [r2']
  rw [t, Option.map_some]
  exact congrArg some (Prod.ext r3 r4)
theorem KAs_is (P : Params) : KAs = (KF P).map (·.1) := rfl
end Mine
end
section
-- WS
open PySem PySem.W PyProof.Rows PySem.Calls
set_option Elab.async false
set_option maxRecDepth 100000
namespace Mine
theorem ws1 : namesResolve PySem.Challenge.rw_rh0100_01.row.prog = true := by kernel_rfl
theorem ws3 : noRoadLSs { strict := !(importedModules PySem.Challenge.rw_rh0100_01.row.prog.main.body).all cThrough.contains, foot := none, bare := (["vars", "dir", "locals"] : List Str).filter (readsOut PySem.Challenge.rw_rh0100_01.row.prog PySem.Challenge.rw_rh0100_01.row.prog.main.body) } PySem.Challenge.rw_rh0100_01.row.prog.main.body = true := by kernel_rfl
theorem ws4 : (namesMeet PySem.Challenge.rw_rh0100_01.row.prog PySem.Challenge.rw_rh0100_01.row.prog.main.body fun _ n => attrL n) = true := by kernel_rfl
theorem ws6 : looksOpen PySem.Challenge.rw_rh0100_01.row.prog = true := by
  unfold looksOpen
  rw [Bool.and_eq_true, Bool.and_eq_true, Bool.and_eq_true, Bool.and_eq_true]
  exact ⟨⟨⟨⟨by kernel_rfl, ws1⟩, by kernel_rfl⟩, ws3⟩, ws4⟩
theorem ws7 : OpenRow.wellSaid PySem.Challenge.rw_rh0100_01.row = true := by
  unfold OpenRow.wellSaid OpenRow.partSaid
  rw [ws6]
  kernel_rfl
theorem well_said : OpenLaw.wellSaid PySem.Challenge.rw_rh0100_01 = true := by
  unfold OpenLaw.wellSaid
  rw [ws7]
  kernel_rfl
end Mine
end
section
-- B0
open PySem PySem.W PyProof.Rows PyProof.V
set_option Elab.async false
set_option maxRecDepth 100000
set_option rowWalk.seconds 0
set_option linter.unusedVariables false
set_option maxHeartbeats 8000000
namespace Mine
noncomputable abbrev tupO (vs : List Value) (n : Nat) : Obj := { cls := .type "tuple", data := .seq vs.toArray n }
noncomputable abbrev PW : Program := PySem.Challenge.pw_rh0100_01

end Mine
end
section
-- B1
open PySem PySem.W PyProof.Rows PyProof.V
set_option Elab.async false
set_option maxRecDepth 100000
set_option rowWalk.seconds 0
set_option linter.unusedVariables false
set_option maxHeartbeats 8000000
namespace Mine
end Mine
namespace Mine
open PySem.Calls
section
variable {prog : Program} {w : World} {A : Around} {E : Value → Shared → Prop} {s : Shared}
theorem tup_type {a : Addr} {vs : List Value} {n : Nat} (h : s.heap.get? a = some (tupO vs n)) : s.TypeIs (.ref a) "tuple" := ⟨_, h, rfl⟩
theorem tup2_lt {a b : Addr} {x y y' : Int} {u1 u2 v1 v2 : Tok} {n n' : Nat} {Q : Value → Shared → Prop} (ha : s.heap.get? a = some (tupO [.int x u1, .int y u2] n)) (hb : s.heap.get? b = some (tupO [.int x v1, .int y' v2] n'))
    (hne : ¬ y = y') (hu : A.units < cLine) (h : Q (.bool (decide (y < y'))) s) : wpAny (model prog w) A (compareOp .Lt (.ref a) (.ref b)) Q E s := by
  show wpAny _ _ (richCompare .Lt (.ref a) (.ref b)) Q E s
  refine wpAny_richCompare_same_room (op := .Lt) (tup_type ha) (tup_type hb) F.slot_tuple_lt (wpAny_call_entry F.slot_tuple_lt (tup_type ha) F.entry_tuple_lt ?_ (F.args_tuple_lt_2 _ _)) hu
  show wpAny _ _ (isInstance (.ref b) (.type "tuple") >>= _) _ _ s
  refine wpAny_bind (wpAny_isInstance (tup_type hb) isSubtype_tuple_tuple ?_)
  simp only [Bool.not_true, Bool.false_eq_true, if_false]
  refine wpAny_bind (wpAny_tupleItemsOf ha rfl ?_)
  refine wpAny_bind (wpAny_tupleItemsOf hb rfl ?_)
  refine wpAny_bind ?_
  show wpAny _ _ (forIn [(Value.int x u1, Value.int x v1), (Value.int y u2, Value.int y' v2)] _ _) _ _ s
  rw [List.forIn_cons]
  refine wpAny_bind (wpAny_bind (wpAny_eqBool_int ?_))
  simp only [beq_self_eq_true, Bool.not_true, Bool.false_eq_true, if_false]
  refine wpAny_pure ?_
  dsimp only
  rw [List.forIn_cons]
  refine wpAny_bind (wpAny_bind (wpAny_eqBool_int ?_))
  have e : (y == y') = false := by simp [hne]
  rw [e]
  simp only [Bool.not_false, if_true]
  refine wpAny_bind (wpAny_rule (wpAny_bind ?_))
  refine wpAny_mono (wpAny_lt_int (Q := fun v s' => v = .bool (decide (y < y')) ∧ s' = s) ⟨rfl, rfl⟩) (fun v s' hv => ?_) fun _ _ z => z
  obtain ⟨rfl, rfl⟩ := hv
  refine wpAny_bind (wpAny_pure ?_)
  refine wpAny_pure ?_
  dsimp only
  refine wpAny_pure ?_
  dsimp only
  show wpAny _ _ (pure (Fin.done (Flow.ret (Value.bool (decide (y < y')))))) _ _ _
  exact wpAny_pure ⟨_, rfl, (fun z => nomatch z), h⟩
theorem tup2_gt {a b : Addr} {x y y' : Int} {u1 u2 v1 v2 : Tok} {n n' : Nat} {Q : Value → Shared → Prop} (ha : s.heap.get? a = some (tupO [.int x u1, .int y u2] n)) (hb : s.heap.get? b = some (tupO [.int x v1, .int y' v2] n'))
    (hne : ¬ y = y') (hu : A.units < cLine) (h : Q (.bool (decide (y' < y))) s) : wpAny (model prog w) A (compareOp .Gt (.ref a) (.ref b)) Q E s := by
  show wpAny _ _ (richCompare .Gt (.ref a) (.ref b)) Q E s
  refine wpAny_richCompare_same_room (op := .Gt) (tup_type ha) (tup_type hb) F.slot_tuple_gt (wpAny_call_entry F.slot_tuple_gt (tup_type ha) F.entry_tuple_gt ?_ (F.args_tuple_gt_2 _ _)) hu
  show wpAny _ _ (isInstance (.ref b) (.type "tuple") >>= _) _ _ s
  refine wpAny_bind (wpAny_isInstance (tup_type hb) isSubtype_tuple_tuple ?_)
  simp only [Bool.not_true, Bool.false_eq_true, if_false]
  refine wpAny_bind (wpAny_tupleItemsOf ha rfl ?_)
  refine wpAny_bind (wpAny_tupleItemsOf hb rfl ?_)
  refine wpAny_bind ?_
  show wpAny _ _ (forIn [(Value.int x u1, Value.int x v1), (Value.int y u2, Value.int y' v2)] _ _) _ _ s
  rw [List.forIn_cons]
  refine wpAny_bind (wpAny_bind (wpAny_eqBool_int ?_))
  simp only [beq_self_eq_true, Bool.not_true, Bool.false_eq_true, if_false]
  refine wpAny_pure ?_
  dsimp only
  rw [List.forIn_cons]
  refine wpAny_bind (wpAny_bind (wpAny_eqBool_int ?_))
  have e : (y == y') = false := by simp [hne]
  rw [e]
  simp only [Bool.not_false, if_true]
  refine wpAny_bind (wpAny_rule (wpAny_bind ?_))
  refine wpAny_mono (PyProof.Rows.gt_int (Q := fun v s' => v = .bool (decide (y' < y)) ∧ s' = s) ⟨rfl, rfl⟩) (fun v s' hv => ?_) fun _ _ z => z
  obtain ⟨rfl, rfl⟩ := hv
  refine wpAny_bind (wpAny_pure ?_)
  refine wpAny_pure ?_
  dsimp only
  refine wpAny_pure ?_
  dsimp only
  show wpAny _ _ (pure (Fin.done (Flow.ret (Value.bool (decide (y' < y)))))) _ _ _
  exact wpAny_pure ⟨_, rfl, (fun z => nomatch z), h⟩
end
end Mine
end
section
-- B2
open PySem PySem.W PyProof.Rows PyProof.V
set_option Elab.async false
set_option maxRecDepth 100000
set_option rowWalk.seconds 0
set_option linter.unusedVariables false
set_option maxHeartbeats 8000000
namespace Mine
end Mine
namespace Mine
end Mine
end
section
-- B3
open PySem PySem.W PyProof.Rows PyProof.V
set_option Elab.async false
set_option maxRecDepth 100000
set_option rowWalk.seconds 0
set_option linter.unusedVariables false
set_option maxHeartbeats 8000000
namespace Mine
end Mine
namespace Mine
noncomputable def mergeL (z : Int → Int → Int) (u : Bool) : List Int → List Int → List Int
  | [], bs => bs
  | a :: as, [] => a :: as
  | a :: as, b :: bs => if z a b ≤ 0 then (if z a b = 0 ∧ u = true then a :: mergeL z u as bs else a :: mergeL z u as (b :: bs)) else b :: mergeL z u (a :: as) bs
termination_by l r => l.length + r.length

section
variable {prog : Program} {w : World} {A : Around} {E : Value → Shared → Prop} {s : Shared} {env : Env} {test : PySem.Expr} {body orelse : List Stmt} {Q : Flow → Shared → Prop} {g : Heap} {L : Addr}
end
section
variable {prog : Program} {w : World} {A : Around} {E : Value → Shared → Prop} {s : Shared} {env : Env} {test : PySem.Expr} {body orelse : List Stmt} {Q : Flow → Shared → Prop} {g : Heap} {L : Addr}
end
section
open PySem.Calls PySem.W
variable {prog : Program} {w : World} {A : Around} {E : Value → Shared → Prop} {s : Shared} {h₀ : Heap} {L D b : Addr} {m : Str → Option Value} {news : List (Addr × Obj)} {vs ws : List Value} {n n2 : Nat} {g : Obj → List (Addr × Obj)}
theorem updOf {o : Obj} : ∀ {l : List (Addr × Obj)} {g : Obj → List (Addr × Obj)}, UpdF D o l g → ∀ o', Upd D o o' l (g o')
  | _, _, .head h => fun _ => .head h
  | _, _, .tail h r => fun o' => .tail h (updOf r o')
theorem slice_from {value slice : PySem.Expr} {l : Addr} {ns : List Int} {x : Int} {u : Tok} {Q : Value → Shared → Prop} (F : Fr h₀ L s.heap m) (N : News h₀ L s.heap news) (hm : (l, listOf vs.toArray n) ∈ news) (hi : IntsAre vs ns) (h0 : 0 ≤ x) (hz : ns.length ≤ 100000)
    (h : ∀ D ws h', IntsAre ws (ns.drop x.toNat) → Fr h₀ L h' m → News h₀ L h' ((D, listOf (List.toArray ws) 0) :: news) → (∀ p ∈ news, p.1 < D) → Q (.ref D) { s with heap := h' })
    (hs : subscripted slice false (.ref l) (.ref s.heap.objs.size) = operate [.ref s.heap.objs.size, .ref l] (getItem (.ref l) (.ref s.heap.objs.size))) (ht : ∀ r, letTemporaryGo value (.ref l) r = pure ()) :
    wpAny (model prog w) A (subscriptTail value slice (.ref l) (.ref s.heap.objs.size)) Q E { s with heap := s.heap.push { cls := .type "slice", data := .fields #[.int x u, .none, .none] } } := by
  have hz' : vs.toArray.size ≤ sizeLine := by rw [List.size_toArray, hi.length]; simp only [sizeLine]; omega
  exact kmk_slice_ints F N (News.isList N hm) (IsPart.int _ _) IsPart.none hi (kmk_from hi h0) rfl (fun D ws h' F' N' l1 hI _ _ => h D ws h' hI F' N' l1) hs ht hz'
theorem ext_list {os ms : List Int} {Q : Value → Shared → Prop} (F : Fr h₀ L s.heap m) (N : News h₀ L s.heap news) (hb : (b, listOf ws.toArray n2) ∈ news) (hv : IntsAre vs os) (hw : IntsAre ws ms) (U : UpdF D (listOf vs.toArray n) news g) (hz : os.length + ms.length ≤ 100000)
    (h : ∀ h' k xs, IntsAre xs (os ++ ms) → Fr h₀ L h' m → News h₀ L h' (g (listOf xs.toArray k)) → Q .none { s with heap := h' }) : wpAny (model prog w) A (call (.builtin "list.extend") [.ref D, .ref b]) Q E s := by
  rw [← hv.length, ← hw.length] at hz
  have hd : ¬(!vs.toArray.isEmpty && Builtin.List.listTooLong (vs.toArray.size + ws.toArray.size)) = true := by
    have : Builtin.List.listTooLong (vs.toArray.size + ws.toArray.size) = false := by
      simp only [Builtin.List.listTooLong, List.size_toArray, sizeLine, decide_eq_false_iff_not]; omega
    rw [this, Bool.and_false]; exact Bool.false_ne_true
  have hz1 : vs.toArray.toList.length ≤ sizeLine := by simp only [sizeLine]; omega
  have hz2 : vs.toArray.size + ws.toArray.size ≤ sizeLine + 1 := by simp only [List.size_toArray, sizeLine]; omega
  by_cases hw0 : ws = []
  · subst hw0
    exact kxn_extend F N hb rfl (updOf U _) hd hz1 hz2 fun h' F' N' => h h' n _ (hv.append hw) F' (by rw [List.append_nil]; exact N')
  · exact kl_extend F N hb rfl (by simpa using hw0) (updOf U _) hd hz1 hz2 fun h' F' N' => h h' (n + 1) _ (hv.append hw) F' N'
end
theorem mergeL_nil {z : Int → Int → Int} {u : Bool} (l : List Int) : mergeL z u l [] = l := by
  cases l with
  | nil => rw [mergeL]
  | cons a as => rw [mergeL]
theorem mergeL_step {z : Int → Int → Int} {u : Bool} {ls rs : List Int} {i j : Nat} (hi : i < ls.length) (hj : j < rs.length) : mergeL z u (ls.drop i) (rs.drop j) =
    if z (ls.getD (Int.toNat (i : Int)) 0) (rs.getD (Int.toNat (j : Int)) 0) ≤ 0 then (if z (ls.getD (Int.toNat (i : Int)) 0) (rs.getD (Int.toNat (j : Int)) 0) = 0 ∧ u = true then ls.getD (Int.toNat (i : Int)) 0 :: mergeL z u (ls.drop (i + 1)) (rs.drop (j + 1)) else ls.getD (Int.toNat (i : Int)) 0 :: mergeL z u (ls.drop (i + 1)) (rs.drop j))
    else rs.getD (Int.toNat (j : Int)) 0 :: mergeL z u (ls.drop i) (rs.drop (j + 1)) := by
  have ei : ls.getD (Int.toNat (i : Int)) 0 = ls[i] := by simp [List.getD, hi]
  have ej : rs.getD (Int.toNat (j : Int)) 0 = rs[j] := by simp [List.getD, hj]
  rw [ei, ej, List.drop_eq_getElem_cons hi, List.drop_eq_getElem_cons hj, mergeL]
end Mine
end
section
-- B4
open PySem PySem.W PyProof.Rows PyProof.V
set_option Elab.async false
set_option maxRecDepth 100000
set_option rowWalk.seconds 0
set_option linter.unusedVariables false
set_option maxHeartbeats 8000000
namespace Mine
end Mine
namespace Mine
section
open PySem.W
variable {prog : Program} {w : World} {A : Around} {E : Value → Shared → Prop} {s : Shared} {env : Env} {h₀ : Heap} {x : Str} {body : List Stmt} {Q : Flow → Shared → Prop}
variable {target : Expr} {ws : List (Addr × String)} {keep : List (Addr × Obj)}
/-- a for over the items of a list or a tuple, by an invariant on what is left -/
theorem items_ind (J : List Value → (Str → Option Value) → List (Addr × Obj) → Prop)
    (turn : ∀ (R : (Str → Option Value) → List (Addr × Obj) → Prop) v rest m news, J (v :: rest) m news → (∀ m' n', J rest m' n' → R m' n') → ∀ h tk, Fr h₀ env.locals h m → AllObj ws (fun its => News h₀ env.locals h (its ++ news) →
      wpAny (model prog w) A (assign target env v) (fun _ s₂ => wpAny (model prog w) A (execs body env) (UnrPostW h₀ env.locals { s with heap := h, toks := tk } its (fun m' n' => SubL keep n' ∧ R m' n') Q) E s₂) E { s with heap := h, toks := tk }))
    (fin : ∀ m news, J [] m news → ∀ h tk, Fr h₀ env.locals h m → News h₀ env.locals h news → Q .next { s with heap := h, toks := tk }) :
    ∀ vs m news, J vs m news → ItemsRest prog w A E h₀ env target body Q s ws keep (vs.map .val) m news
  | [], m, news, hJ => fun h tk F N => fin m news hJ h tk F N
  | v :: vs, m, news, hJ => fun u h tk e F => by
    have e' : u = v := e
    subst e'
    exact turn _ u vs m news hJ (fun m' n' hJ' => items_ind J turn fin vs m' n' hJ') h tk F
end

section
open PySem.Calls PySem.W
variable {prog : Program} {w : World} {A : Around} {E : Value → Shared → Prop} {s : Shared} {h₀ : Heap} {L D : Addr} {m : Str → Option Value} {news : List (Addr × Obj)} {its : Array Value} {vs l' : List Value} {n : Nat} {k : Int} {t : Tok} {v : Value} {g : Obj → List (Addr × Obj)}
theorem list_put {Q : Unit → Shared → Prop} (F : Fr h₀ L s.heap m) (N : News h₀ L s.heap news) (U : UpdF D (listOf its n) news g) (e : its.toList = vs) (h0 : 0 ≤ k) (e2 : vs.set k.toNat v = l') (h1 : k < vs.length) (hfit : k < 2 ^ 63)
    (h : ∀ h', Fr h₀ L h' m → News h₀ L h' (g (listOf l'.toArray n)) → Q () { s with heap := h' }) :
    wpAny (model prog w) A (setItem (.ref D) (.int k t) v) Q E s := by
  subst e2
  subst e
  obtain ⟨pre, post, rfl, e', a, b⟩ := U.split
  have z := N (D, listOf its n) (List.mem_append.mpr (.inr (.head _)))
  have hj : k.toNat < its.size := by rw [Array.length_toList] at h1; omega
  refine ki_setAt z.1 h0 hfit (by omega) (h _ (F.change (Heap.SameBut.update ..) z.2.1 z.2.2) (by rw [e']; exact ki_turn _ N a b (by apply Array.toList_inj.mp; simp) (by simp)))
theorem arrL {l : List Value} : l.toArray.toList = l := rfl
end
end Mine
end
section
-- B5
open PySem PySem.W PyProof.Rows PyProof.V
set_option Elab.async false
set_option maxRecDepth 100000
set_option rowWalk.seconds 0
set_option linter.unusedVariables false
set_option maxHeartbeats 8000000
namespace Mine
end Mine
namespace Mine
section
open PySem.W
variable {prog : Program} {w : World} {A : Around} {E : Value → Shared → Prop} {s : Shared} {env : Env} {test : PySem.Expr} {body orelse : List Stmt} {Q : Flow → Shared → Prop} {g : Heap} {L : Addr}
end
end Mine
end
section
-- B6
open PySem PySem.W PyProof.Rows PyProof.V
set_option Elab.async false
set_option maxRecDepth 100000
set_option rowWalk.seconds 0
set_option linter.unusedVariables false
set_option maxHeartbeats 8000000
namespace Mine
end Mine
namespace Mine
noncomputable def cmpZ (x y : Int) : Int := if x < y then -1 else if x > y then 1 else 0
end Mine
end
section
-- Q0
open PySem PySem.W PyProof.Rows
set_option Elab.async false
set_option maxRecDepth 100000
set_option linter.unusedVariables false
namespace Mine
/-! abstract values, objects, states -/
inductive SV where
  | unb | none | bool (b : Bool) | int (z : Int) | str (s : Str) | ref (a : Addr)
inductive Den : SV → Value → Prop
  | none : Den .none .none
  | bool (b : Bool) : Den (.bool b) (.bool b)
  | int (z : Int) (t : Tok) : Den (.int z) (.int z t)
  | str (s : Str) (t : Tok) : Den (.str s) (.str s t)
  | ref (a : Addr) : Den (.ref a) (.ref a)
inductive DenL : List SV → List Value → Prop
  | nil : DenL [] []
  | cons {v : SV} {x : Value} {vs : List SV} {xs : List Value} : Den v x → DenL vs xs → DenL (v :: vs) (x :: xs)
inductive SO where
  | tup (vs : List SV) | lst (vs : List SV) | inst (C d : Addr) | attrs (es : List (Str × SV)) | stab (es : List (Str × SV)) | ttab (es : List ((Int × Int) × Addr × Int)) | iset (S : Int → Bool) (n : Nat) | cell (v : SV)
inductive DenE (P : World) : List (Str × SV) → List DictEntry → Prop
  | nil : DenE P [] []
  | cons {x : Str} {v : SV} {y : Value} {t : Tok} {es : List (Str × SV)} {ds : List DictEntry} : Den v y → DenE P es ds → DenE P ((x, v) :: es) (⟨PyData.keyHash P.params x, .str x t, y⟩ :: ds)
inductive DenT : List ((Int × Int) × Addr × Int) → List (List Int × Addr × Value) → Prop
  | nil : DenT [] []
  | cons {a n z : Int} {k : Addr} {t : Tok} {es : List ((Int × Int) × Addr × Int)} {ys : List (List Int × Addr × Value)} : DenT es ys → DenT (((a, n), k, z) :: es) (([a, n], k, .int z t) :: ys)
inductive DenK : List (Str × SV) → List (Str × Value) → Prop
  | nil : DenK [] []
  | cons {x : Str} {v : SV} {y : Value} {es : List (Str × SV)} {ks : List (Str × Value)} : Den v y → DenK es ks → DenK ((x, v) :: es) ((x, y) :: ks)
inductive DenO (P : World) : SO → Obj → Prop
  | tup {vs : List SV} {xs : List Value} (n : Nat) : DenL vs xs → DenO P (.tup vs) (tupO xs n)
  | lst {vs : List SV} {xs : List Value} (n : Nat) : DenL vs xs → DenO P (.lst vs) (listOf xs.toArray n)
  | inst {C d : Addr} : DenO P (.inst C d) (instObj C d)
  | attrs {es : List (Str × SV)} {ds : List DictEntry} (n : Nat) : DenE P es ds → DenO P (.attrs es) (dictOf ds n)
  | iset {S : Int → Bool} {n : Nat} {ob : Obj} : ob.SetObjOf (PySem.intKind PW P) S n → DenO P (.iset S n) ob
  | stab {es : List (Str × SV)} {ks : List (Str × Value)} {ob : Obj} : ob.IsDictOf (PySem.strKind PW P) ks → DenK es ks → DenO P (.stab es) ob
  | cell {v : SV} {y : Value} {ob : Obj} : ob.data = .cell (some y) → Den v y → DenO P (.cell v) ob
  | cellU {ob : Obj} : ob.data = .cell Option.none → DenO P (.cell .unb) ob
  | ttab {es : List ((Int × Int) × Addr × Int)} {ys : List (List Int × Addr × Value)} {ds : Array DictEntry} {n : Nat} {ob : Obj} : ob.ExactDict → ob.data = .dict ds n → DenT es ys → ds.toList = ys.map (entryOfKey (tupleKind (PySem.intKind PW P))) → (ys.map (·.1)).Nodup → DenO P (.ttab es) ob
theorem Den.ri {a : Addr} {y : Value} (h : Den (.ref a) y) : y = .ref a := by cases h; rfl
theorem Den.ii {z : Int} {y : Value} (h : Den (.int z) y) : ∃ t, y = .int z t := by cases h; exact ⟨_, rfl⟩
theorem DenL.ni {xs : List Value} (h : DenL [] xs) : xs = [] := by cases h; rfl
theorem DenL.cons_inv {v : SV} {vs : List SV} {xs : List Value} (h : DenL (v :: vs) xs) : ∃ x r, xs = x :: r ∧ Den v x ∧ DenL vs r := by cases h; exact ⟨_, _, rfl, by assumption, by assumption⟩
theorem DenO.mi {P : World} {C d : Addr} {ob : Obj} (h : DenO P (.inst C d) ob) : ob = instObj C d := by cases h; rfl
theorem DenO.lst_inv {P : World} {vs : List SV} {ob : Obj} (h : DenO P (.lst vs) ob) : ∃ xs n, ob = listOf (List.toArray xs) n ∧ DenL vs xs := by cases h; exact ⟨_, _, rfl, by assumption⟩
theorem DenO.tup_inv {P : World} {vs : List SV} {ob : Obj} (h : DenO P (.tup vs) ob) : ∃ xs n, ob = tupO xs n ∧ DenL vs xs := by cases h; exact ⟨_, _, rfl, by assumption⟩
theorem DenO.attrs_inv {P : World} {es : List (Str × SV)} {ob : Obj} (h : DenO P (.attrs es) ob) : ∃ ds n, ob = dictOf ds n ∧ DenE P es ds := by cases h; exact ⟨_, _, rfl, by assumption⟩
theorem DenO.iset_inv {P : World} {S : Int → Bool} {n : Nat} {ob : Obj} (h : DenO P (.iset S n) ob) : ob.SetObjOf (PySem.intKind PW P) S n := by cases h; assumption
theorem DenO.stab_inv {P : World} {es : List (Str × SV)} {ob : Obj} (h : DenO P (.stab es) ob) : ∃ ks, ob.IsDictOf (PySem.strKind PW P) ks ∧ DenK es ks := by cases h; exact ⟨_, by assumption, by assumption⟩
theorem DenO.ttab_inv {P : World} {es : List ((Int × Int) × Addr × Int)} {ob : Obj} (h : DenO P (.ttab es) ob) : ∃ (ys : List (List Int × Addr × Value)) (ds : Array DictEntry) (n : Nat), ob.ExactDict ∧ ob.data = .dict ds n ∧ DenT es ys ∧ ds.toList = ys.map (entryOfKey (tupleKind (PySem.intKind PW P))) ∧ (ys.map (·.1)).Nodup := by cases h; exact ⟨_, _, _, by assumption, by assumption, by assumption, by assumption, by assumption⟩
noncomputable abbrev Hp := Addr → Option SO
noncomputable def Hp.set (H : Hp) (a : Addr) (o : SO) : Hp := fun b => if b = a then some o else H b
theorem Hp.set_eq {H : Hp} {a : Addr} {o : SO} : H.set a o a = some o := if_pos rfl
theorem Hp.set_ne {H : Hp} {a b : Addr} {o : SO} {r : Option SO} (h : b ≠ a) (e : H b = r) : H.set a o b = r := (if_neg h).trans e
theorem Hp.set_new {H : Hp} {a b : Addr} {o o' : SO} (h : H a = Option.none) (e : H b = some o') : H.set a o b = some o' := Hp.set_ne (fun q => by rw [q, h] at e; cases e) e

theorem Den.inj {v v' : SV} {x : Value} (h : Den v x) (h' : Den v' x) : v = v' := by cases h <;> cases h' <;> rfl
theorem DenL.length {vs : List SV} {xs : List Value} (h : DenL vs xs) : xs.length = vs.length := by
  induction h with
  | nil => rfl
  | cons _ _ ih => simp only [List.length_cons, ih]
theorem DenL.get {vs : List SV} {xs : List Value} (h : DenL vs xs) : ∀ {i : Nat} {v : SV}, vs[i]? = some v → ∃ x, xs[i]? = some x ∧ Den v x := by
  induction h with
  | nil => intro i v e; simp at e
  | cons d _ ih =>
    intro i v e
    cases i with
    | zero => simp at e; subst e; exact ⟨_, by simp, d⟩
    | succ i => simp at e; simpa using ih e
theorem DenL.append {vs vs' : List SV} {xs xs' : List Value} (h : DenL vs xs) (h' : DenL vs' xs') : DenL (vs ++ vs') (xs ++ xs') := by
  induction h with
  | nil => exact h'
  | cons d _ ih => exact .cons d ih
theorem DenL.set {vs : List SV} {xs : List Value} (h : DenL vs xs) {v : SV} {x : Value} (d : Den v x) : ∀ i, DenL (vs.set i v) (xs.set i x) := by
  induction h with
  | nil => intro i; exact .nil
  | cons d' h' ih =>
    intro i
    cases i with
    | zero => exact .cons d h'
    | succ i => exact .cons d' (ih i)
theorem DenL.drop {vs : List SV} {xs : List Value} (h : DenL vs xs) : ∀ i, DenL (vs.drop i) (xs.drop i) := by
  induction h with
  | nil => intro i; simp; exact .nil
  | cons d' h' ih =>
    intro i
    cases i with
    | zero => exact .cons d' h'
    | succ i => exact ih i
theorem DenL.take {vs : List SV} {xs : List Value} (h : DenL vs xs) : ∀ i, DenL (vs.take i) (xs.take i) := by
  induction h with
  | nil => intro i; simp; exact .nil
  | cons d' h' ih =>
    intro i
    cases i with
    | zero => exact .nil
    | succ i => exact .cons d' (ih i)
theorem DenE.get {P : World} {es : List (Str × SV)} {ds : List DictEntry} (h : DenE P es ds) {x : Str} : ∀ {v : SV}, es.lookup x = some v → ∃ y, getL x ds = some (some y) ∧ Den v y := by
  induction h with
  | nil => intro v e; cases e
  | cons d h ih =>
    rename_i y v val t es' ds'
    intro v' e
    by_cases hxy : x = y
    · subst hxy
      rw [List.lookup_cons, beq_self_eq_true] at e
      cases e
      refine ⟨val, ?_, d⟩
      unfold getL
      rw [List.find?_cons_of_pos (by simp [Value.isStr])]
    · have hf : (x == y) = false := beq_eq_false_iff_ne.mpr hxy
      rw [List.lookup_cons, hf] at e
      obtain ⟨v2, e2, d2⟩ := ih e
      refine ⟨v2, ?_, d2⟩
      unfold getL at e2 ⊢
      rw [List.find?_cons_of_neg (by simp [Value.isStr]; intro q; exact hxy q.symm)]
      cases hq : List.find? (fun x_1 => x_1.key.isStr x) ds' with
      | none => rw [hq] at e2; simp only at e2; split at e2 <;> cases e2
      | some q => rw [hq] at e2; exact e2
theorem DenE.noRef {P : World} {es : List (Str × SV)} {ds : List DictEntry} (h : DenE P es ds) : ds.any (·.refKey) = false := by
  induction h with
  | nil => rfl
  | cons d h ih => rw [List.any_cons, ih]; rfl
theorem DenE.miss {P : World} {es : List (Str × SV)} {ds : List DictEntry} (h : DenE P es ds) {x : Str} (e : es.lookup x = none) : getL x ds = some none := by
  have hf : ds.find? (·.key.isStr x) = none := by
    induction h with
    | nil => rfl
    | cons d h ih =>
      rename_i y v val t es' ds'
      by_cases hxy : x = y
      · subst hxy
        rw [List.lookup_cons, beq_self_eq_true] at e
        cases e
      · have hf : (x == y) = false := beq_eq_false_iff_ne.mpr hxy
        rw [List.lookup_cons, hf] at e
        rw [List.find?_cons_of_neg (by simp [Value.isStr]; intro q; exact hxy q.symm)]
        exact ih e
  unfold getL
  rw [hf, h.noRef]
  rfl

/-! the frame and the context -/
structure FI where
  cn : Str
  cs : Scope
  fa : Addr
  cd : Value
  vars : List Str
  cl : List (Str × Addr)
structure FI.Good (f : FI) : Prop where
  hk : f.cs.kind = .function
  nd : f.vars.Nodup
  loc : ∀ x ∈ f.vars, f.cs.names.lookup x = some .local ∧ (x == ("__debug__" : Str)) = false
structure Cx where
  p : Program
  loose : List Str
  mean : ExcName → Option Value
  mg : Str → Option Value
  mb : Str → Option Value
  dp : Nat
  un : Nat
  gd : Option (List Code)
  outer : List Env
  A₀ : Around
  base : Heap
  h₀ : Heap
  L : Addr
  ex : List (Addr × Obj)
noncomputable abbrev Cx.env (c : Cx) (f : FI) : Env := envX f.cn f.cs c.L f.fa f.cd f.cl
noncomputable abbrev Cx.A (c : Cx) (f : FI) : Around := ktrTop c.dp c.un c.gd f.cn f.cs c.L f.fa f.cd f.cl c.outer
structure Cx.Ok (w : World) (d : Nat) (f : FI) (c : Cx) : Prop where
  B : Below c.A₀ c.base c.outer c.h₀
  X : (KF w.params).In c.h₀
  T : Top c.p c.loose c.mean c.mg c.mb c.h₀
  dl : c.dp ≤ d + 400
  ul : c.un ≤ 10 * d
  db : d ≤ 100
  g : f.Good
noncomputable def NOK (f : FI) (N : List SV) (m : Str → Option Value) : Prop := ∀ (i : Nat) (x : Str) (v : SV), f.vars[i]? = some x → N[i]? = some v → v ≠ .unb → ∃ y, m x = some y ∧ Den v y
structure HOK (P : World) (ex : List (Addr × Obj)) (H : Hp) (news : List (Addr × Obj)) : Prop where
  at' : ∀ a o, H a = some o → ∃ ob, (a, ob) ∈ news ∧ DenO P o ob
  xs : ∀ p ∈ ex, p ∈ news ∧ H p.1 = none
noncomputable def At (w : World) (f : FI) (c : Cx) (N : List SV) (H : Hp) (h : Heap) : Prop := ∃ m news, Fr c.h₀ c.L h m ∧ News c.h₀ c.L h news ∧ NOK f N m ∧ HOK w c.ex H news

theorem nodup_at {α : Type} {l : List α} (h : l.Nodup) : ∀ {i j : Nat} {x : α}, l[i]? = some x → l[j]? = some x → i = j := by
  induction h with
  | nil => intro i j x e; simp at e
  | cons hne _ ih =>
    intro i j x e e'
    cases i with
    | zero =>
      cases j with
      | zero => rfl
      | succ j =>
        simp at e e'
        exact absurd e (hne x (List.mem_of_getElem? e'))
    | succ i =>
      cases j with
      | zero =>
        simp at e e'
        exact absurd e' (hne x (List.mem_of_getElem? e))
      | succ j =>
        simp at e e'
        rw [ih e e']
theorem NOK.set {f : FI} {N : List SV} {m : Str → Option Value} (h : NOK f N m) (hn : f.vars.Nodup) {i : Nat} {x : Str} {v : SV} {y : Value} (hx : f.vars[i]? = some x) (hd : Den v y) : NOK f (N.set i v) (fun z => if z = x then some y else m z) := by
  intro j z u hz hu hne
  by_cases hij : i = j
  · subst hij
    have : z = x := by rw [hx] at hz; exact (Option.some.inj hz).symm
    subst this
    rw [List.getElem?_set] at hu
    simp only [if_true] at hu
    split at hu
    · cases hu; exact ⟨y, if_pos rfl, hd⟩
    · cases hu
  · rw [List.getElem?_set_ne hij] at hu
    obtain ⟨y', e, d⟩ := h j z u hz hu hne
    refine ⟨y', ?_, d⟩
    have : z ≠ x := by
      rintro rfl
      exact hij (nodup_at hn hx hz)
    exact (if_neg this).trans e

/-! ledgers -/
theorem HOK.get {P : World} {ex : List (Addr × Obj)} {H : Hp} {news : List (Addr × Obj)} (h : HOK P ex H news) {a : Addr} {o : SO} (e : H a = some o) : ∃ ob, (a, ob) ∈ news ∧ DenO P o ob := h.at' a o e
noncomputable def offL (D : Addr) (news : List (Addr × Obj)) : List (Addr × Obj) := news.filter fun p => !(p.1 == D)
theorem offL_ne {D : Addr} {news : List (Addr × Obj)} : ∀ p ∈ offL D news, p.1 ≠ D := fun p hp => by
  have := (List.mem_filter.mp hp).2
  intro q; rw [q] at this; simp at this
theorem newsOff {h₀ : Heap} {L : Addr} {h : Heap} {news : List (Addr × Obj)} (N : News h₀ L h news) {D : Addr} {ob : Obj} (hm : (D, ob) ∈ news) : News h₀ L h ((D, ob) :: offL D news) := fun p hp => by
  rcases List.mem_cons.mp hp with rfl | hp
  · exact N _ hm
  · exact N _ (List.mem_filter.mp hp).1
section
variable {P : World} {ex : List (Addr × Obj)} {H : Hp} {news : List (Addr × Obj)}
theorem HOK.put (h : HOK P ex H news) {D : Addr} {o o0 : SO} {ob : Obj} (e0 : H D = some o0) (d : DenO P o ob) : HOK P ex (H.set D o) ((D, ob) :: offL D news) := by
  refine ⟨fun a o' e => ?_, fun p hp => ?_⟩
  · unfold Hp.set at e
    by_cases ha : a = D
    · subst ha
      rw [if_pos rfl] at e
      cases e
      exact ⟨ob, List.mem_cons_self, d⟩
    · rw [if_neg ha] at e
      obtain ⟨ob', hm, d'⟩ := h.at' a o' e
      exact ⟨ob', List.mem_cons_of_mem _ (List.mem_filter.mpr ⟨hm, by simp [ha]⟩), d'⟩
  · obtain ⟨h1, h2⟩ := h.xs p hp
    have hne : p.1 ≠ D := fun q => by rw [q, e0] at h2; cases h2
    exact ⟨List.mem_cons_of_mem _ (List.mem_filter.mpr ⟨h1, by simp [hne]⟩), Hp.set_ne hne h2⟩
theorem HOK.new (h : HOK P ex H news) {D : Addr} {o : SO} {ob : Obj} (hl : ∀ p ∈ news, p.1 < D) (d : DenO P o ob) : HOK P ex (H.set D o) ((D, ob) :: news) := by
  refine ⟨fun a o' e => ?_, fun p hp => ?_⟩
  · unfold Hp.set at e
    by_cases ha : a = D
    · subst ha
      rw [if_pos rfl] at e
      cases e
      exact ⟨ob, List.mem_cons_self, d⟩
    · rw [if_neg ha] at e
      obtain ⟨ob', hm, d'⟩ := h.at' a o' e
      exact ⟨ob', List.mem_cons_of_mem _ hm, d'⟩
  · obtain ⟨h1, h2⟩ := h.xs p hp
    exact ⟨List.mem_cons_of_mem _ h1, Hp.set_ne (Nat.ne_of_lt (hl _ h1)) h2⟩
theorem HOK.fresh (h : HOK P ex H news) {D : Addr} (hl : ∀ p ∈ news, p.1 < D) : H D = none := by
  cases e : H D with
  | none => rfl
  | some o =>
    obtain ⟨ob, hm, _⟩ := h.at' D o e
    exact absurd (hl _ hm) (Nat.lt_irrefl _)
theorem HOK.less {H' : Hp} (h : HOK P ex H news) (hs : ∀ a o, H' a = some o → H a = some o) : HOK P ex H' news := ⟨fun a o e => h.at' a o (hs a o e), fun p hp => ⟨(h.xs p hp).1, by
  cases e : H' p.1 with
  | none => rfl
  | some o => have := (h.xs p hp).2; rw [hs _ _ e] at this; cases this⟩⟩
/-- and taken out again -/
theorem HOK.out {p0 : Addr × Obj} (h : HOK P (p0 :: ex) H news) (hne : ∀ p ∈ ex, p.1 ≠ p0.1) : HOK P ex H (offL p0.1 news) := by
  have h0 := (h.xs p0 List.mem_cons_self).2
  refine ⟨fun a o e => ?_, fun p hp => ?_⟩
  · obtain ⟨ob, hm, d⟩ := h.at' a o e
    have hne : a ≠ p0.1 := fun q => by rw [q, h0] at e; cases e
    exact ⟨ob, List.mem_filter.mpr ⟨hm, by simp [hne]⟩, d⟩
  · obtain ⟨h1, h2⟩ := h.xs p (List.mem_cons_of_mem _ hp)
    have hne := hne p hp
    exact ⟨List.mem_filter.mpr ⟨h1, by simp [hne]⟩, h2⟩
end

/-! the judgements -/
noncomputable def Ev (w : World) (d : Nat) (f : FI) (N : List SV) (H : Hp) (e : PySem.Expr) (K : SV → Hp → Prop) : Prop :=
  ∀ (c : Cx) (s : Shared) (Q E : Value → Shared → Prop), Cx.Ok w d f c → At w f c N H s.heap →
    (∀ v y H' h' tk', K v H' → Den v y → At w f c N H' h' → Q y { s with heap := h', toks := tk' }) → wpAny (model PW w) (c.A f) (eval e (c.env f)) Q E s
noncomputable abbrev EvP (w : World) (d : Nat) (f : FI) (N : List SV) (H : Hp) (e : PySem.Expr) (v : SV) : Prop := Ev w d f N H e fun v' H' => v' = v ∧ H' = H
noncomputable def EvL (w : World) (d : Nat) (f : FI) (N : List SV) (H : Hp) (es : List PySem.Expr) (K : List SV → Hp → Prop) : Prop :=
  ∀ (pos : Pos) (c : Cx) (s : Shared) (Q : List Value → Shared → Prop) (E : Value → Shared → Prop), Cx.Ok w d f c → At w f c N H s.heap →
    (∀ vs ys H' h' tk', K vs H' → DenL vs ys → At w f c N H' h' → Q ys { s with heap := h', toks := tk' }) → wpAny (model PW w) (c.A f) (spliced (backTo pos (starEach es (c.env f)))) Q E s
noncomputable abbrev EvLP (w : World) (d : Nat) (f : FI) (N : List SV) (H : Hp) (es : List PySem.Expr) (vs : List SV) : Prop := EvL w d f N H es fun v' H' => v' = vs ∧ H' = H
noncomputable def EvB (w : World) (d : Nat) (f : FI) (N : List SV) (H : Hp) (e : PySem.Expr) (K : Bool → Hp → Prop) : Prop :=
  ∀ (c : Cx) (s : Shared) (Q : Bool → Shared → Prop) (E : Value → Shared → Prop), Cx.Ok w d f c → At w f c N H s.heap →
    (∀ b H' h' tk', K b H' → At w f c N H' h' → Q b { s with heap := h', toks := tk' }) → wpAny (model PW w) (c.A f) (isTrue e (c.env f) (eval e (c.env f))) Q E s
noncomputable abbrev EvBP (w : World) (d : Nat) (f : FI) (N : List SV) (H : Hp) (e : PySem.Expr) (b : Bool) : Prop := EvB w d f N H e fun b' H' => b' = b ∧ H' = H
inductive Fl where
  | next | brk | cont | ret (v : SV)
inductive FlDen : Fl → Flow → Prop
  | next : FlDen .next .next
  | brk : FlDen .brk .brk
  | cont : FlDen .cont .cont
  | ret {v : SV} {y : Value} : Den v y → FlDen (.ret v) (.ret y)
noncomputable def Ex (w : World) (d : Nat) (f : FI) (N : List SV) (H : Hp) (ss : List Stmt) (K : Fl → List SV → Hp → Prop) : Prop :=
  ∀ (c : Cx) (s : Shared) (Q : Flow → Shared → Prop) (E : Value → Shared → Prop), Cx.Ok w d f c → PassesOwn (model PW w) (c.A f) (c.env f) E → At w f c N H s.heap →
    (∀ fl y N' H' h' tk', K fl N' H' → FlDen fl y → At w f c N' H' h' → Q y { s with heap := h', toks := tk' }) → wpAny (model PW w) (c.A f) (execs ss (c.env f)) Q E s
/-- a contract of a call -/
noncomputable def Sp (w : World) (d : Nat) (fa : Addr) (args : List SV) (H : Hp) (K : SV → Hp → Prop) : Prop :=
  ∀ (ys : List Value), DenL args ys → ∀ (c : Cx) (f : FI) (m : Str → Option Value) (news : List (Addr × Obj)) (s : Shared) (R : Result → Shared → Prop),
    Below c.A₀ c.base c.outer c.h₀ → (KF w.params).In c.h₀ → Top c.p c.loose c.mean c.mg c.mb c.h₀ → f.cs.kind = .function → c.dp ≤ d + 400 → c.un ≤ 10 * d → Fr c.h₀ c.L s.heap m → News c.h₀ c.L s.heap news → HOK w c.ex H news →
    (∀ v y H' news' h' tk', K v H' → Den v y → Fr c.h₀ c.L h' m → News c.h₀ c.L h' news' → HOK w c.ex H' news' → R (.ok (.ret y)) { s with heap := h', toks := tk' }) →
    codeAny (model PW w) (c.A f) (.call (.ref fa) ⟨ys, []⟩) R s
noncomputable abbrev SpP (w : World) (d : Nat) (fa : Addr) (args : List SV) (H : Hp) (v : SV) : Prop := Sp w d fa args H fun v' H' => v' = v ∧ H' = H
theorem Sp.mono {w : World} {d : Nat} {fa : Addr} {args : List SV} {H : Hp} {K K' : SV → Hp → Prop} (h : Sp w d fa args H K) (k : ∀ v H', K v H' → K' v H') : Sp w d fa args H K' :=
  fun ys hd c f m news s R B X T hk dl ul F N hh ret => h ys hd c f m news s R B X T hk dl ul F N hh fun v y H' news' h' tk' hK => ret v y H' news' h' tk' (k _ _ hK)
theorem Ev.mono {w : World} {d : Nat} {f : FI} {N : List SV} {H : Hp} {e : PySem.Expr} {K K' : SV → Hp → Prop} (h : Ev w d f N H e K) (k : ∀ v H', K v H' → K' v H') : Ev w d f N H e K' :=
  fun c s Q E ok at' ret => h c s Q E ok at' fun v y H' h' tk' hK => ret v y H' h' tk' (k _ _ hK)
theorem Ex.mono {w : World} {d : Nat} {f : FI} {N : List SV} {H : Hp} {ss : List Stmt} {K K' : Fl → List SV → Hp → Prop} (h : Ex w d f N H ss K) (k : ∀ v N' H', K v N' H' → K' v N' H') : Ex w d f N H ss K' :=
  fun c s Q E ok pe at' ret => h c s Q E ok pe at' fun v y N' H' h' tk' hK => ret v y N' H' h' tk' (k _ _ _ hK)
end Mine
end
section
-- Q1
open PySem PySem.W PyProof.Rows
set_option Elab.async false
set_option maxRecDepth 100000
set_option linter.unusedVariables false
namespace Mine
inductive VarAt : List Str → Nat → Str → Prop
  | here {x : Str} {r : List Str} : VarAt (x :: r) 0 x
  | there {x y : Str} {r : List Str} {i : Nat} : VarAt r i x → VarAt (y :: r) (i + 1) x
theorem VarAt.at' {l : List Str} {i : Nat} {x : Str} (h : VarAt l i x) : l[i]? = some x := by
  induction h with
  | here => rfl
  | there _ ih => exact ih
theorem seq_at {k : Int} {n : Nat} (h0 : 0 ≤ k) (h1 : k.toNat < n) : seqIndex? k n = some k.toNat := by
  unfold seqIndex?
  have e1 : ¬ k < 0 := by omega
  have e2 : k < (n : Int) := by omega
  simp [e1, h0, e2]
noncomputable def plainE : PySem.Expr → Bool
  | .Starred .. => false
  | _ => true
theorem starEach_plain {e : PySem.Expr} {es : List PySem.Expr} {env : Env} (h : plainE e = true) : starEach (e :: es) env = (false, eval e env) :: starEach es env := by
  cases e <;> first | rfl | cases h
section
variable {w : World} {d : Nat} {f : FI} {N : List SV} {H : Hp}
theorem At.fr {c : Cx} {h : Heap} (a : At w f c N H h) : ∃ m, Fr c.h₀ c.L h m := let ⟨m, _, F, _⟩ := a; ⟨m, F⟩
theorem Ev.loc {i : Nat} {x : Str} {v : SV} {pos : Pos} (hx' : VarAt f.vars i x) (hv : N[i]? = some v) (hn : v ≠ .unb) : EvP w d f N H (.Name x pos) v := by
  intro c s Q E ok at' ret
  have hx := hx'.at'
  have at2 := at'
  obtain ⟨m, news, F, Nw, hN, hH⟩ := at'
  obtain ⟨y, hy, hd⟩ := hN i x v hx hv hn
  have hl := ok.g.loc x (List.mem_of_getElem? hx)
  exact nameX_L F hy (ret v y H s.heap s.toks ⟨rfl, rfl⟩ hd at2) ok.g.hk hl.1 hl.2
theorem Ev.glob {x : Str} {y : Value} {v : SV} {pos : Pos} (e : ∀ P, nsIn (KF P) mainGlobals x = some (some y)) (hd : Den v y) (hk : f.cs.names.lookup x = some .globalImplicit) (hb : (x == ("__debug__" : Str)) = false) : EvP w d f N H (.Name x pos) v := by
  intro c s Q E ok at' ret
  obtain ⟨m, F⟩ := at'.fr
  exact nameX_K F ok.X (topRead_of ok.T) (e _) (ret v y H s.heap s.toks ⟨rfl, rfl⟩ hd at') ok.g.hk hk hb
theorem Ev.int {z : Int} {k : Nat} {pos : Pos} : EvP w d f N H (.Constant (.int z) k pos) (.int z) :=
  fun c s Q E ok at' ret => wpAny_Constant_int (ret _ _ H s.heap _ ⟨rfl, rfl⟩ (.int z s.toks) at')
theorem Ev.str {z : Str} {k : Nat} {pos : Pos} : EvP w d f N H (.Constant (.str z) k pos) (.str z) :=
  fun c s Q E ok at' ret => wpAny_Constant_str (ret _ _ H s.heap _ ⟨rfl, rfl⟩ (.str z s.toks) at')
theorem Ev.bool {z : Bool} {k : Nat} {pos : Pos} : EvP w d f N H (.Constant (.bool z) k pos) (.bool z) :=
  fun c s Q E ok at' ret => wpAny_Constant_bool (ret _ _ H s.heap s.toks ⟨rfl, rfl⟩ (.bool z) at')
/-- what a class of the program's says of a name read from an object of its own -/
structure ClsAttr (C : Addr) (x : Str) : Prop where
  pg : ∀ P, plainGet (KF P) C x = true
  hd : ∀ P, hasDictIn (KF P) C = true
  fi : ∀ P, findIn (KF P) (.ref C) x = some none
theorem Ev.attr {e : PySem.Expr} {a C dx : Addr} {es : List (Str × SV)} {x : Str} {v : SV} {pos : Pos} (he : EvP w d f N H e (.ref a)) (ha : H a = some (.inst C dx)) (hd : H dx = some (.attrs es)) (hx : es.lookup x = some v) (hc : ClsAttr C x)
    (hm : ∀ env, eval (.Attribute e x pos) env = (do
      let o ← eval e env
      standAt pos.atName
      let r ← holding [o] (getAttr o x true)
      letTemporaryGo e o r
      pure r) := by intro _; with_unfolding_all exact rfl) : EvP w d f N H (.Attribute e x pos) v := by
  intro c s Q E ok at' ret
  refine Attribute_any_ (he c s _ E ok at' ?_) (hm _)
  intro v1 y1 H1 h1 tk1 hK hD at1
  obtain ⟨rfl, rfl⟩ := hK
  (first | obtain rfl := hD.ri | obtain ⟨_, rfl⟩ := hD.ii | obtain rfl := hD.ni | obtain rfl := hD.mi | cases hD)
  have at2 := at1
  obtain ⟨m, news, F, Nw, hN, hH⟩ := at1
  obtain ⟨oa, ma, da⟩ := hH.get ha
  obtain ⟨od, md, dd⟩ := hH.get hd
  (first | obtain rfl := da.ri | obtain ⟨_, rfl⟩ := da.ii | obtain rfl := da.ni | obtain rfl := da.mi | cases da)
  obtain ⟨_, n, rfl, dE⟩ := dd.attrs_inv
  obtain ⟨y, hy, hden⟩ := dE.get hx
  exact get_own (s := { s with heap := h1, toks := tk1 }) F ok.X (InstAt.of_news Nw ma md) (hc.pg _) (hc.hd _) (hc.fi _) (by rfl) hy (by cases hden <;> rfl) (ret v y H1 h1 _ ⟨rfl, rfl⟩ hden at2)
theorem Ev.itemT {e sl : PySem.Expr} {a : Addr} {vs : List SV} {k : Int} {v : SV} {pos : Pos} (he : EvP w d f N H e (.ref a)) (hs : EvP w d f N H sl (.int k)) (ha : H a = some (.tup vs)) (h0 : 0 ≤ k) (h1 : k < 1000000) (hx : vs[k.toNat]? = some v)
    (hm : ∀ a k u, subscripted sl false (.ref a) (.int k u) = operate [.ref a, .int k u] (getItem (.ref a) (.int k u)) := by intros; with_unfolding_all exact rfl) : EvP w d f N H (.Subscript e sl pos) v := by
  intro c s Q E ok at' ret
  refine Subscript_ (he c s _ E ok at' ?_)
  intro v1 y1 H1 h1 tk1 hK hD at1
  obtain ⟨rfl, rfl⟩ := hK
  (first | obtain rfl := hD.ri | obtain ⟨_, rfl⟩ := hD.ii | obtain rfl := hD.ni | obtain rfl := hD.mi | cases hD)
  refine hs c { s with heap := h1, toks := tk1 } _ E ok at1 ?_
  intro v2 y2 H2 h2 tk2 hK hD at2
  obtain ⟨rfl, rfl⟩ := hK
  (first | obtain rfl := hD.ri | obtain ⟨_, rfl⟩ := hD.ii | obtain rfl := hD.ni | obtain rfl := hD.mi | cases hD)
  have at3 := at2
  obtain ⟨m, news, F, Nw, hN, hH⟩ := at2
  obtain ⟨oa, ma, da⟩ := hH.get ha
  obtain ⟨_, n, rfl, dL⟩ := da.tup_inv
  obtain ⟨y, hy, hden⟩ := dL.get hx
  have hj := (List.getElem?_eq_some_iff.mp hx).1
  have hln := dL.length
  exact item_tupleT (s := { s with heap := h2, toks := tk2 }) (j := k.toNat) ⟨_, (Nw _ ma).1, rfl, _, rfl⟩ (by omega) (by omega) (seq_at h0 (by omega)) hy (ret v y H2 h2 tk2 ⟨rfl, rfl⟩ hden at3) (hm _ _ _)
theorem Ev.itemL {e sl : PySem.Expr} {a : Addr} {vs : List SV} {k : Int} {v : SV} {pos : Pos} (he : EvP w d f N H e (.ref a)) (hs : EvP w d f N H sl (.int k)) (ha : H a = some (.lst vs)) (h0 : 0 ≤ k) (h1 : k < 1000000) (hx : vs[k.toNat]? = some v)
    (hm : ∀ a k u, subscripted sl false (.ref a) (.int k u) = operate [.ref a, .int k u] (getItem (.ref a) (.int k u)) := by intros; with_unfolding_all exact rfl) : EvP w d f N H (.Subscript e sl pos) v := by
  intro c s Q E ok at' ret
  refine Subscript_ (he c s _ E ok at' ?_)
  intro v1 y1 H1 h1 tk1 hK hD at1
  obtain ⟨rfl, rfl⟩ := hK
  (first | obtain rfl := hD.ri | obtain ⟨_, rfl⟩ := hD.ii | obtain rfl := hD.ni | obtain rfl := hD.mi | cases hD)
  refine hs c { s with heap := h1, toks := tk1 } _ E ok at1 ?_
  intro v2 y2 H2 h2 tk2 hK hD at2
  obtain ⟨rfl, rfl⟩ := hK
  (first | obtain rfl := hD.ri | obtain ⟨_, rfl⟩ := hD.ii | obtain rfl := hD.ni | obtain rfl := hD.mi | cases hD)
  have at3 := at2
  obtain ⟨m, news, F, Nw, hN, hH⟩ := at2
  obtain ⟨oa, ma, da⟩ := hH.get ha
  obtain ⟨xs, n, rfl, dL⟩ := da.lst_inv
  obtain ⟨y, hy, hden⟩ := dL.get hx
  have hl : h2.IsList a xs.toArray := ⟨_, (Nw _ ma).1, rfl, _, rfl⟩
  exact tail_any (s := { s with heap := h2, toks := tk2 }) hl.typeIs slot_list_getitem.lookup (wpAny_getItem_list (s := { s with heap := h2, toks := tk2 }) hl h0 (by omega) (by simpa using hy) (ret v y H2 h2 tk2 ⟨rfl, rfl⟩ hden at3)) (hm _ _ _)
theorem Ev.bin {l r : PySem.Expr} {op : Operator} {a b : SV} {v : SV} {pos : Pos} (hl : EvP w d f N H l a) (hr : EvP w d f N H r b)
    (ho : ∀ (c : Cx) (s : Shared) (Q E : Value → Shared → Prop) x y, Den a x → Den b y → (∀ z tk', Den v z → Q z { s with toks := tk' }) → wpAny (model PW w) (c.A f) (binaryOp op x y) Q E s) : EvP w d f N H (.BinOp l op r pos) v := by
  intro c s Q E ok at' ret
  refine wpAny_BinOp (hl c s _ E ok at' ?_)
  intro v1 y1 H1 h1 tk1 hK hD1 at1
  obtain ⟨rfl, rfl⟩ := hK
  refine hr c { s with heap := h1, toks := tk1 } _ E ok at1 ?_
  intro v2 y2 H2 h2 tk2 hK hD2 at2
  obtain ⟨rfl, rfl⟩ := hK
  exact ho c { s with heap := h2, toks := tk2 } _ E _ _ hD1 hD2 fun z tk' hz => ret v z H2 h2 tk' ⟨rfl, rfl⟩ hz at2
theorem Ev.add {l r : PySem.Expr} {a b : Int} {pos : Pos} (hl : EvP w d f N H l (.int a)) (hr : EvP w d f N H r (.int b)) : EvP w d f N H (.BinOp l .Add r pos) (.int (a + b)) :=
  hl.bin hr fun c s Q E x y hx hy ret => by (first | obtain rfl := hx.ri | obtain ⟨_, rfl⟩ := hx.ii | obtain rfl := hx.ni | obtain rfl := hx.mi | cases hx); (first | obtain rfl := hy.ri | obtain ⟨_, rfl⟩ := hy.ii | obtain rfl := hy.ni | obtain rfl := hy.mi | cases hy); exact add_int (ret _ _ (.int _ _))
theorem Ev.sub {l r : PySem.Expr} {a b : Int} {pos : Pos} (hl : EvP w d f N H l (.int a)) (hr : EvP w d f N H r (.int b)) : EvP w d f N H (.BinOp l .Sub r pos) (.int (a - b)) :=
  hl.bin hr fun c s Q E x y hx hy ret => by (first | obtain rfl := hx.ri | obtain ⟨_, rfl⟩ := hx.ii | obtain rfl := hx.ni | obtain rfl := hx.mi | cases hx); (first | obtain rfl := hy.ri | obtain ⟨_, rfl⟩ := hy.ii | obtain rfl := hy.ni | obtain rfl := hy.mi | cases hy); exact sub_int (ret _ _ (.int _ _))
theorem Ev.mul {l r : PySem.Expr} {a b : Int} {pos : Pos} (hl : EvP w d f N H l (.int a)) (hr : EvP w d f N H r (.int b)) (hm : IntMulOk a b) : EvP w d f N H (.BinOp l .Mult r pos) (.int (a * b)) :=
  hl.bin hr fun c s Q E x y hx hy ret => by (first | obtain rfl := hx.ri | obtain ⟨_, rfl⟩ := hx.ii | obtain rfl := hx.ni | obtain rfl := hx.mi | cases hx); (first | obtain rfl := hy.ri | obtain ⟨_, rfl⟩ := hy.ii | obtain rfl := hy.ni | obtain rfl := hy.mi | cases hy); exact mul_int (ret _ _ (.int _ _)) hm
theorem Ev.neg {e : PySem.Expr} {a : Int} {pos : Pos} (he : EvP w d f N H e (.int a)) : EvP w d f N H (.UnaryOp .USub e pos) (.int (-a)) := by
  intro c s Q E ok at' ret
  refine UnaryOp_ (he c s _ E ok at' ?_)
  intro v1 y1 H1 h1 tk1 hK hD at1
  obtain ⟨rfl, rfl⟩ := hK
  (first | obtain rfl := hD.ri | obtain ⟨_, rfl⟩ := hD.ii | obtain rfl := hD.ni | obtain rfl := hD.mi | cases hD)
  exact neg_int (ret _ _ _ h1 _ ⟨rfl, rfl⟩ (.int _ _) at1)
/-! comparisons -/
noncomputable def CmpR (w : World) (f : FI) (op : CmpOp) (a b : SV) (H : Hp) (N : List SV) (r : Bool) : Prop :=
  ∀ (c : Cx) (s : Shared) (Q E : Value → Shared → Prop) (d : Nat) x y, Cx.Ok w d f c → Den a x → Den b y → At w f c N H s.heap → (∀ tk', Q (.bool r) { s with toks := tk' }) → wpAny (model PW w) (c.A f) (compareOp op x y) Q E s
theorem Ev.cmp {l r : PySem.Expr} {op : CmpOp} {a b : SV} {v : Bool} {pos : Pos} (hl : EvP w d f N H l a) (hr : EvP w d f N H r b) (ho : CmpR w f op a b H N v) (hm : behindInMarks op r = false := by with_unfolding_all exact rfl) : EvP w d f N H (.Compare l [op] [r] pos) (.bool v) := by
  intro c s Q E ok at' ret
  refine wpAny_Compare1 (hl c s _ E ok at' ?_) hm
  intro v1 y1 H1 h1 tk1 hK hD1 at1
  obtain ⟨rfl, rfl⟩ := hK
  refine hr c { s with heap := h1, toks := tk1 } _ E ok at1 ?_
  intro v2 y2 H2 h2 tk2 hK hD2 at2
  obtain ⟨rfl, rfl⟩ := hK
  exact ho c { s with heap := h2, toks := tk2 } _ E d _ _ ok hD1 hD2 at2 fun tk' => ret _ _ H2 h2 tk' ⟨rfl, rfl⟩ (.bool v) at2
theorem EvB.cmp {l r : PySem.Expr} {op : CmpOp} {a b : SV} {v : Bool} {pos : Pos} (hl : EvP w d f N H l a) (hr : EvP w d f N H r b) (ho : CmpR w f op a b H N v) (hm : behindInMarks op r = false := by with_unfolding_all exact rfl) : EvBP w d f N H (.Compare l [op] [r] pos) v := by
  intro c s Q E ok at' ret
  refine wpAny_isTrue_Compare1 (hl c s _ E ok at' ?_) hm
  intro v1 y1 H1 h1 tk1 hK hD1 at1
  obtain ⟨rfl, rfl⟩ := hK
  refine hr c { s with heap := h1, toks := tk1 } _ E ok at1 ?_
  intro v2 y2 H2 h2 tk2 hK hD2 at2
  obtain ⟨rfl, rfl⟩ := hK
  exact ho c { s with heap := h2, toks := tk2 } _ E d _ _ ok hD1 hD2 at2 fun tk' => wpAny_truthy_bool (ret _ H2 h2 tk' ⟨rfl, rfl⟩ at2)
theorem CmpR.lt {a b : Int} : CmpR w f .Lt (.int a) (.int b) H N (decide (a < b)) := fun c s Q E d x y ok hx hy at' ret => by (first | obtain rfl := hx.ri | obtain ⟨_, rfl⟩ := hx.ii | obtain rfl := hx.ni | obtain rfl := hx.mi | cases hx); (first | obtain rfl := hy.ri | obtain ⟨_, rfl⟩ := hy.ii | obtain rfl := hy.ni | obtain rfl := hy.mi | cases hy); exact lt_int (ret _)
theorem CmpR.le {a b : Int} : CmpR w f .LtE (.int a) (.int b) H N (decide (a ≤ b)) := fun c s Q E d x y ok hx hy at' ret => by (first | obtain rfl := hx.ri | obtain ⟨_, rfl⟩ := hx.ii | obtain rfl := hx.ni | obtain rfl := hx.mi | cases hx); (first | obtain rfl := hy.ri | obtain ⟨_, rfl⟩ := hy.ii | obtain rfl := hy.ni | obtain rfl := hy.mi | cases hy); exact le_int (ret _)
theorem CmpR.gt {a b : Int} : CmpR w f .Gt (.int a) (.int b) H N (decide (b < a)) := fun c s Q E d x y ok hx hy at' ret => by (first | obtain rfl := hx.ri | obtain ⟨_, rfl⟩ := hx.ii | obtain rfl := hx.ni | obtain rfl := hx.mi | cases hx); (first | obtain rfl := hy.ri | obtain ⟨_, rfl⟩ := hy.ii | obtain rfl := hy.ni | obtain rfl := hy.mi | cases hy); exact PyProof.Rows.gt_int (ret _)
theorem CmpR.ge {a b : Int} : CmpR w f .GtE (.int a) (.int b) H N (decide (b ≤ a)) := fun c s Q E d x y ok hx hy at' ret => by (first | obtain rfl := hx.ri | obtain ⟨_, rfl⟩ := hx.ii | obtain rfl := hx.ni | obtain rfl := hx.mi | cases hx); (first | obtain rfl := hy.ri | obtain ⟨_, rfl⟩ := hy.ii | obtain rfl := hy.ni | obtain rfl := hy.mi | cases hy); exact ge_int (ret _)
theorem CmpR.eq {a b : Int} : CmpR w f .Eq (.int a) (.int b) H N (a == b) := fun c s Q E d x y ok hx hy at' ret => by (first | obtain rfl := hx.ri | obtain ⟨_, rfl⟩ := hx.ii | obtain rfl := hx.ni | obtain rfl := hx.mi | cases hx); (first | obtain rfl := hy.ri | obtain ⟨_, rfl⟩ := hy.ii | obtain rfl := hy.ni | obtain rfl := hy.mi | cases hy); exact eq_int (ret _)
theorem CmpR.ne {a b : Int} : CmpR w f .NotEq (.int a) (.int b) H N (a != b) := fun c s Q E d x y ok hx hy at' ret => by (first | obtain rfl := hx.ri | obtain ⟨_, rfl⟩ := hx.ii | obtain rfl := hx.ni | obtain rfl := hx.mi | cases hx); (first | obtain rfl := hy.ri | obtain ⟨_, rfl⟩ := hy.ii | obtain rfl := hy.ni | obtain rfl := hy.mi | cases hy); exact PyProof.Rows.ne_int (ret _)
theorem CmpR.ltS {a b : Str} : CmpR w f .Lt (.str a) (.str b) H N (decide (a.cps.toList < b.cps.toList)) := fun c s Q E d x y ok hx hy at' ret => by (first | obtain rfl := hx.ri | obtain ⟨_, rfl⟩ := hx.ii | obtain rfl := hx.ni | obtain rfl := hx.mi | cases hx); (first | obtain rfl := hy.ri | obtain ⟨_, rfl⟩ := hy.ii | obtain rfl := hy.ni | obtain rfl := hy.mi | cases hy); exact lt_str (ret _)
theorem CmpR.gtS {a b : Str} : CmpR w f .Gt (.str a) (.str b) H N (decide (b.cps.toList < a.cps.toList)) := fun c s Q E d x y ok hx hy at' ret => by (first | obtain rfl := hx.ri | obtain ⟨_, rfl⟩ := hx.ii | obtain rfl := hx.ni | obtain rfl := hx.mi | cases hx); (first | obtain rfl := hy.ri | obtain ⟨_, rfl⟩ := hy.ii | obtain rfl := hy.ni | obtain rfl := hy.mi | cases hy); exact PySem.P.gt_str (ret _)
/-! truth -/
theorem EvB.val {e : PySem.Expr} {b : Bool} (he : EvP w d f N H e (.bool b)) (hm : ∀ env whole, isTrue e env whole = (do let v ← whole; standAt e.pos; holding [v] (truthy v)) := by intros; with_unfolding_all exact rfl) : EvBP w d f N H e b := by
  intro c s Q E ok at' ret
  refine isTrue_plain (he c s _ E ok at' ?_) (hm _ _)
  intro v1 y1 H1 h1 tk1 hK hD1 at1
  obtain ⟨rfl, rfl⟩ := hK
  (first | obtain rfl := hD1.ri | obtain ⟨_, rfl⟩ := hD1.ii | obtain rfl := hD1.ni | obtain rfl := hD1.mi | cases hD1)
  exact wpAny_truthy_bool (ret _ H1 h1 tk1 ⟨rfl, rfl⟩ at1)
theorem EvB.and2 {l r : PySem.Expr} {a b : Bool} {pos : Pos} (hl : EvBP w d f N H l a) (hr : a = true → EvBP w d f N H r b) : EvBP w d f N H (.BoolOp .And [l, r] pos) (a && b) := by
  intro c s Q E ok at' ret
  refine isTrue_and (hl c s _ E ok at' ?_)
  intro v1 H1 h1 tk1 hK at1
  obtain ⟨rfl, rfl⟩ := hK
  cases v1 with
  | false => exact ret _ H1 h1 tk1 ⟨rfl, rfl⟩ at1
  | true =>
    rw [if_pos rfl]
    refine isTrue_and (hr rfl c _ _ E ok at1 ?_)
    intro v2 H2 h2 tk2 hK at2
    obtain ⟨rfl, rfl⟩ := hK
    cases v2 with
    | false => exact ret _ H2 h2 tk2 ⟨rfl, rfl⟩ at2
    | true => exact isTrue_and_nil (ret _ H2 h2 tk2 ⟨rfl, rfl⟩ at2)
theorem EvB.or2 {l r : PySem.Expr} {a b : Bool} {pos : Pos} (hl : EvBP w d f N H l a) (hr : a = false → EvBP w d f N H r b) : EvBP w d f N H (.BoolOp .Or [l, r] pos) (a || b) := by
  intro c s Q E ok at' ret
  refine isTrue_or (hl c s _ E ok at' ?_)
  intro v1 H1 h1 tk1 hK at1
  obtain ⟨rfl, rfl⟩ := hK
  cases v1 with
  | true => exact ret _ H1 h1 tk1 ⟨rfl, rfl⟩ at1
  | false =>
    refine isTrue_or (hr rfl c _ _ E ok at1 ?_)
    intro v2 H2 h2 tk2 hK at2
    obtain ⟨rfl, rfl⟩ := hK
    cases v2 with
    | true => exact ret _ H2 h2 tk2 ⟨rfl, rfl⟩ at2
    | false => exact isTrue_or_nil (ret _ H2 h2 tk2 ⟨rfl, rfl⟩ at2)
theorem Ev.or2 {l r : PySem.Expr} {a b : Bool} {pos : Pos} (hl : EvP w d f N H l (.bool a)) (hr : a = false → EvP w d f N H r (.bool b)) : EvP w d f N H (.BoolOp .Or [l, r] pos) (.bool (a || b)) := by
  intro c s Q E ok at' ret
  refine BoolOp_or (hl c s _ E ok at' ?_)
  intro v1 y1 H1 h1 tk1 hK hD1 at1
  obtain ⟨rfl, rfl⟩ := hK
  (first | obtain rfl := hD1.ri | obtain ⟨_, rfl⟩ := hD1.ii | obtain rfl := hD1.ni | obtain rfl := hD1.mi | cases hD1)
  refine wpAny_truthy_bool ?_
  cases a with
  | true => exact ret _ _ H1 h1 tk1 ⟨rfl, rfl⟩ (.bool _) at1
  | false => exact BoolOp_one (hr rfl c _ _ E ok at1 ret)
theorem Ev.ifx {t a b : PySem.Expr} {c0 : Bool} {v : SV} {pos : Pos} (ht : EvBP w d f N H t c0) (ha : c0 = true → EvP w d f N H a v) (hb : c0 = false → EvP w d f N H b v) : EvP w d f N H (.IfExp t a b pos) v := by
  intro c s Q E ok at' ret
  refine IfExp_ (ht c s _ E ok at' ?_)
  intro v1 H1 h1 tk1 hK at1
  obtain ⟨rfl, rfl⟩ := hK
  cases v1 with
  | true => exact ha rfl c _ _ E ok at1 ret
  | false => exact hb rfl c _ _ E ok at1 ret
/-! lists of arguments -/
theorem EvL.nil : EvLP w d f N H [] [] := fun pos c s Q E ok at' ret => args_nil (ret _ _ H s.heap s.toks ⟨rfl, rfl⟩ .nil at')
theorem EvL.cons {e : PySem.Expr} {es : List PySem.Expr} {v : SV} {vs : List SV} (he : EvP w d f N H e v) (hes : EvLP w d f N H es vs) (hm : ∀ env, starEach (e :: es) env = (false, eval e env) :: starEach es env := by intros; exact starEach_plain rfl) : EvLP w d f N H (e :: es) (v :: vs) := by
  intro pos c s Q E ok at' ret
  refine args_cons (he c s _ E ok at' ?_) (hm _)
  intro v1 y1 H1 h1 tk1 hK hD1 at1
  obtain ⟨rfl, rfl⟩ := hK
  refine hes pos c _ _ E ok at1 ?_
  intro v2 y2 H2 h2 tk2 hK hD2 at2
  obtain ⟨rfl, rfl⟩ := hK
  exact ret _ _ H2 h2 tk2 ⟨rfl, rfl⟩ (.cons hD1 hD2) at2
theorem EvL.consK {e : PySem.Expr} {es : List PySem.Expr} {K1 : SV → Hp → Prop} {K : List SV → Hp → Prop} (he : Ev w d f N H e K1) (hes : ∀ v H1, K1 v H1 → EvL w d f N H1 es (fun vs H2 => K (v :: vs) H2)) (hm : ∀ env, starEach (e :: es) env = (false, eval e env) :: starEach es env := by intros; exact starEach_plain rfl) : EvL w d f N H (e :: es) K := by
  intro pos c s Q E ok at' ret
  refine args_cons (he c s _ E ok at' ?_) (hm _)
  intro v1 y1 H1 h1 tk1 hK hD1 at1
  refine hes _ _ hK pos c _ _ E ok at1 ?_
  intro v2 y2 H2 h2 tk2 hK hD2 at2
  exact ret _ _ H2 h2 tk2 hK (.cons hD1 hD2) at2
theorem EvL.nilK {K : List SV → Hp → Prop} (h : K [] H) : EvL w d f N H [] K := fun pos c s Q E ok at' ret => args_nil (ret _ _ H s.heap s.toks h .nil at')
theorem EvL.mono {es : List PySem.Expr} {K K' : List SV → Hp → Prop} (h : EvL w d f N H es K) (k : ∀ v H', K v H' → K' v H') : EvL w d f N H es K' :=
  fun pos c s Q E ok at' ret => h pos c s Q E ok at' fun v y H' h' tk' hK => ret v y H' h' tk' (k _ _ hK)
/-! displays -/
theorem Ev.tup {es : List PySem.Expr} {vs : List SV} {k : Nat} {pos : Pos} (he : EvLP w d f N H es vs) (hz : vs.length ≤ 1000 := by decide) : Ev w d f N H (.Tuple es k pos) (fun v H' => ∃ a, v = .ref a ∧ H a = none ∧ H' = H.set a (.tup vs)) := by
  intro c s Q E ok at' ret
  refine Tuple_ (he pos c s _ E ok at' ?_)
  intro vs1 ys H1 h1 tk1 hK hD at1
  obtain ⟨rfl, rfl⟩ := hK
  obtain ⟨m, news, F, Nw, hN, hH⟩ := at1
  refine kup_newTuple (s := { s with heap := h1, toks := tk1 }) F Nw (fun D h' F' N' hl => ?_) (by rw [hD.length]; simp only [sizeLine]; omega)
  exact ret (.ref D) _ _ h' tk1 ⟨D, rfl, hH.fresh hl, rfl⟩ (.ref D) ⟨m, _, F', N', hN, hH.new hl (.tup 0 hD)⟩
theorem Ev.list {es : List PySem.Expr} {vs : List SV} {pos : Pos} (he : EvLP w d f N H es vs) (hz : vs.length ≤ 1000 := by decide) : Ev w d f N H (.List es pos) (fun v H' => ∃ a, v = .ref a ∧ H a = none ∧ H' = H.set a (.lst vs)) := by
  intro c s Q E ok at' ret
  refine List_ (he pos c s _ E ok at' ?_)
  intro vs1 ys H1 h1 tk1 hK hD at1
  obtain ⟨rfl, rfl⟩ := hK
  obtain ⟨m, news, F, Nw, hN, hH⟩ := at1
  refine newList_K (s := { s with heap := h1, toks := tk1 }) F Nw (fun D h' F' N' hl => ?_) (by rw [hD.length]; simp only [sizeLine]; omega)
  exact ret (.ref D) _ _ h' tk1 ⟨D, rfl, hH.fresh hl, rfl⟩ (.ref D) ⟨m, _, F', N', hN, hH.new hl (.lst 0 hD)⟩
end
end Mine
end
section
-- Q2
open PySem PySem.W PyProof.Rows
set_option Elab.async false
set_option maxRecDepth 100000
set_option linter.unusedVariables false
namespace Mine
section
variable {w : World} {d : Nat} {f : FI} {N : List SV} {H : Hp}
/-! calls of the program's own -/
/-- an address of a function or a class of the program's, and that it is one -/
structure Fn (a : Addr) : Prop where
  kp : ∀ P, keepIn (KF P) (.ref a) = true
theorem Sp.use {d' : Nat} {fa : Addr} {args : List SV} {K : SV → Hp → Prop} (C : Sp w d' fa args H K) (hd : d ≤ d') {ys : List Value} (hy : DenL args ys) {c : Cx} {s : Shared} {Q E : Value → Shared → Prop} (ok : Cx.Ok w d f c) (at' : At w f c N H s.heap)
    (ret : ∀ v y H' h' tk', K v H' → Den v y → At w f c N H' h' → Q y { s with heap := h', toks := tk' }) : wpAny (model PW w) (c.A f) (call (.ref fa) ys) Q E s := by
  obtain ⟨m, news, F, Nw, hN, hH⟩ := at'
  exact wpAny_call (C ys hy c f m news s _ ok.B ok.X ok.T ok.g.hk (Nat.le_trans ok.dl (Nat.add_le_add_right hd _)) (Nat.le_trans ok.ul (Nat.mul_le_mul_left _ hd)) F Nw hH fun v y H' news' h' tk' hK hDn F' N' hH' => ret v y H' h' tk' hK hDn ⟨m, news', F', N', hN, hH'⟩)
theorem At.kin {c : Cx} {h : Heap} (ok : Cx.Ok w d f c) (a : At w f c N H h) : (KF w.params).In h := by
  obtain ⟨m, F⟩ := a.fr
  exact ok.X.keeps F.keep
theorem Ev.callK {d' : Nat} {fe : PySem.Expr} {e : PySem.Expr} {es : List PySem.Expr} {fa : Addr} {KA : List SV → Hp → Prop} {K : SV → Hp → Prop} {pos : Pos} (hf : EvP w d f N H fe (.ref fa)) (hk : Fn fa) (ha : EvL w d f N H (e :: es) KA) (C : ∀ vs H1, KA vs H1 → Sp w d' fa vs H1 K) (hd : d ≤ d')
    (hm : ∀ env, eval (.Call fe (e :: es) [] pos) env = (do callWith pos (← eval fe env) [] (backTo pos (starEach (e :: es) env)) (backToKw pos (keywordEach [] env))) := by intros; with_unfolding_all exact rfl)
    (h1 : ∀ env, starEach (e :: es) env = (false, eval e env) :: starEach es env := by intros; exact starEach_plain rfl) (h2 : ∀ env, (backTo pos (starEach es env)).any (·.1) = false := by intros; with_unfolding_all exact rfl) : Ev w d f N H (.Call fe (e :: es) [] pos) K := by
  intro c s Q E ok at' ret
  refine Call_ (hf c s _ E ok at' ?_) (hm _)
  intro v1 y1 H1 h1' tk1 hK hD1 at1
  obtain ⟨rfl, rfl⟩ := hK
  (first | obtain rfl := hD1.ri | obtain ⟨_, rfl⟩ := hD1.ii | obtain rfl := hD1.ni | obtain rfl := hD1.mi | cases hD1)
  refine callWith_K (h₀ := c.h₀) ok.X (hk.kp _) (ha pos c _ _ E ok at1 ?_) (h1 _) (h2 _)
  intro vs ys H2 h2' tk2 hK hD at2
  exact ⟨at2.kin ok, (C vs H2 hK).use hd hD ok at2 ret⟩
theorem Ev.call {d' : Nat} {fe : PySem.Expr} {e : PySem.Expr} {es : List PySem.Expr} {fa : Addr} {vs : List SV} {K : SV → Hp → Prop} {pos : Pos} (hf : EvP w d f N H fe (.ref fa)) (hk : Fn fa) (ha : EvLP w d f N H (e :: es) vs) (C : Sp w d' fa vs H K) (hd : d ≤ d')
    (hm : ∀ env, eval (.Call fe (e :: es) [] pos) env = (do callWith pos (← eval fe env) [] (backTo pos (starEach (e :: es) env)) (backToKw pos (keywordEach [] env))) := by intros; with_unfolding_all exact rfl)
    (h1 : ∀ env, starEach (e :: es) env = (false, eval e env) :: starEach es env := by intros; exact starEach_plain rfl) (h2 : ∀ env, (backTo pos (starEach es env)).any (·.1) = false := by intros; with_unfolding_all exact rfl) : Ev w d f N H (.Call fe (e :: es) [] pos) K :=
  Ev.callK hf hk ha (fun vs' H' h => by obtain ⟨rfl, rfl⟩ := h; exact C) hd hm h1 h2
theorem Ev.call0 {d' : Nat} {fe : PySem.Expr} {fa : Addr} {K : SV → Hp → Prop} {pos : Pos} (hf : EvP w d f N H fe (.ref fa)) (hk : Fn fa) (C : Sp w d' fa [] H K) (hd : d ≤ d')
    (hm : ∀ env, eval (.Call fe [] [] pos) env = (do callWith pos (← eval fe env) [] (backTo pos (starEach [] env)) (backToKw pos (keywordEach [] env))) := by intros; with_unfolding_all exact rfl) : Ev w d f N H (.Call fe [] [] pos) K := by
  intro c s Q E ok at' ret
  refine Call_ (hf c s _ E ok at' ?_) (hm _)
  intro v1 y1 H1 h1' tk1 hK hD1 at1
  obtain ⟨rfl, rfl⟩ := hK
  (first | obtain rfl := hD1.ri | obtain ⟨_, rfl⟩ := hD1.ii | obtain rfl := hD1.ni | obtain rfl := hD1.mi | cases hD1)
  exact callWith_K0 (at1.kin ok) (hk.kp _) (C.use hd .nil ok at1 ret)
/-- what a class says of a method's name -/
structure ClsMeth (C : Addr) (x : Str) (fa : Addr) : Prop where
  pg : ∀ P, plainGet (KF P) C x = true
  fi : ∀ P, findIn (KF P) (.ref C) x = some (some (.ref fa))
  fn : ∀ P, isFn (KF P) (.ref fa) = true
  kp : ∀ P, keepIn (KF P) (.ref fa) = true
theorem Ev.methK {d' : Nat} {o e : PySem.Expr} {es : List PySem.Expr} {a C dx fa : Addr} {at1 : List (Str × SV)} {x : Str} {KA : List SV → Hp → Prop} {K : SV → Hp → Prop} {apos pos : Pos} (ho : EvP w d f N H o (.ref a)) (hi : H a = some (.inst C dx)) (hdx : H dx = some (.attrs at1)) (hx : at1.lookup x = none) (hc : ClsMeth C x fa)
    (ha : EvL w d f N H (e :: es) KA) (S : ∀ vs H1, KA vs H1 → Sp w d' fa (.ref a :: vs) H1 K) (hd : d ≤ d')
    (hm : ∀ env, ∃ pl, eval (.Call (.Attribute o x apos) (e :: es) [] pos) env = (do
      let ov ← eval o env
      standAt apos.atName
      let (g, first) ← holding [ov] (getMethod ov x pl)
      callWith pos g first (backTo pos (starEach (e :: es) env)) []) := by intros; with_unfolding_all exact ⟨_, rfl⟩)
    (h1 : ∀ env, starEach (e :: es) env = (false, eval e env) :: starEach es env := by intros; exact starEach_plain rfl) (h2 : ∀ env, (backTo pos (starEach es env)).any (·.1) = false := by intros; with_unfolding_all exact rfl) : Ev w d f N H (.Call (.Attribute o x apos) (e :: es) [] pos) K := by
  intro c s Q E ok at' ret
  obtain ⟨pl, hm⟩ := hm (c.env f)
  refine MethodCall_ (ho c s _ E ok at' ?_) hm
  intro v1 y1 H1 h1' tk1 hK hD1 at2
  obtain ⟨rfl, rfl⟩ := hK
  (first | obtain rfl := hD1.ri | obtain ⟨_, rfl⟩ := hD1.ii | obtain rfl := hD1.ni | obtain rfl := hD1.mi | cases hD1)
  have at3 := at2
  obtain ⟨m, news, F, Nw, hN, hH⟩ := at2
  obtain ⟨oa, ma, da⟩ := hH.get hi
  obtain ⟨od, md, dd⟩ := hH.get hdx
  (first | obtain rfl := da.ri | obtain ⟨_, rfl⟩ := da.ii | obtain rfl := da.ni | obtain rfl := da.mi | cases da)
  obtain ⟨_, n, rfl, dE⟩ := dd.attrs_inv
  refine method_inst (s := { s with heap := h1', toks := tk1 }) F ok.X (InstAt.of_news Nw ma md) (hc.pg _) (hc.fi _) (hc.fn _) (dE.miss hx) ?_
  refine callWith_K (h₀ := c.h₀) ok.X (hc.kp _) (ha pos c _ _ E ok at3 ?_) (h1 _) (h2 _)
  intro vs ys H2 h2' tk2 hK hD at4
  exact ⟨at4.kin ok, (S vs H2 hK).use hd (.cons (.ref a) hD) ok at4 ret⟩
theorem Ev.meth {d' : Nat} {o e : PySem.Expr} {es : List PySem.Expr} {a C dx fa : Addr} {at1 : List (Str × SV)} {x : Str} {vs : List SV} {K : SV → Hp → Prop} {apos pos : Pos} (ho : EvP w d f N H o (.ref a)) (hi : H a = some (.inst C dx)) (hdx : H dx = some (.attrs at1)) (hx : at1.lookup x = none) (hc : ClsMeth C x fa)
    (ha : EvLP w d f N H (e :: es) vs) (S : Sp w d' fa (.ref a :: vs) H K) (hd : d ≤ d')
    (hm : ∀ env, ∃ pl, eval (.Call (.Attribute o x apos) (e :: es) [] pos) env = (do
      let ov ← eval o env
      standAt apos.atName
      let (g, first) ← holding [ov] (getMethod ov x pl)
      callWith pos g first (backTo pos (starEach (e :: es) env)) []) := by intros; with_unfolding_all exact ⟨_, rfl⟩)
    (h1 : ∀ env, starEach (e :: es) env = (false, eval e env) :: starEach es env := by intros; exact starEach_plain rfl) (h2 : ∀ env, (backTo pos (starEach es env)).any (·.1) = false := by intros; with_unfolding_all exact rfl) : Ev w d f N H (.Call (.Attribute o x apos) (e :: es) [] pos) K :=
  Ev.methK ho hi hdx hx hc ha (fun vs' H' h => by obtain ⟨rfl, rfl⟩ := h; exact S) hd hm h1 h2
theorem Ev.meth0 {d' : Nat} {o : PySem.Expr} {a C dx fa : Addr} {at1 : List (Str × SV)} {x : Str} {K : SV → Hp → Prop} {apos pos : Pos} (ho : EvP w d f N H o (.ref a)) (hi : H a = some (.inst C dx)) (hdx : H dx = some (.attrs at1)) (hx : at1.lookup x = none) (hc : ClsMeth C x fa)
    (S : Sp w d' fa [.ref a] H K) (hd : d ≤ d')
    (hm : ∀ env, ∃ pl, eval (.Call (.Attribute o x apos) [] [] pos) env = (do
      let ov ← eval o env
      standAt apos.atName
      let (g, first) ← holding [ov] (getMethod ov x pl)
      callWith pos g first (backTo pos (starEach [] env)) []) := by intros; with_unfolding_all exact ⟨_, rfl⟩) : Ev w d f N H (.Call (.Attribute o x apos) [] [] pos) K := by
  intro c s Q E ok at' ret
  obtain ⟨pl, hm⟩ := hm (c.env f)
  refine MethodCall_ (ho c s _ E ok at' ?_) hm
  intro v1 y1 H1 h1' tk1 hK hD1 at2
  obtain ⟨rfl, rfl⟩ := hK
  (first | obtain rfl := hD1.ri | obtain ⟨_, rfl⟩ := hD1.ii | obtain rfl := hD1.ni | obtain rfl := hD1.mi | cases hD1)
  have at3 := at2
  obtain ⟨m, news, F, Nw, hN, hH⟩ := at2
  obtain ⟨oa, ma, da⟩ := hH.get hi
  obtain ⟨od, md, dd⟩ := hH.get hdx
  (first | obtain rfl := da.ri | obtain ⟨_, rfl⟩ := da.ii | obtain rfl := da.ni | obtain rfl := da.mi | cases da)
  obtain ⟨_, n, rfl, dE⟩ := dd.attrs_inv
  refine method_inst (s := { s with heap := h1', toks := tk1 }) F ok.X (InstAt.of_news Nw ma md) (hc.pg _) (hc.fi _) (hc.fn _) (dE.miss hx) ?_
  exact callWith_K0 (at3.kin ok) (hc.kp _) (S.use hd (.cons (.ref a) .nil) ok at3 ret)
/-! built-in functions and methods -/
theorem Ev.bname {x : Str} {y : Value} {pos : Pos} (e : ∀ P, nsIn (KF P) mainGlobals x = some none) (hv : bootBuiltins x = some y) (hn : x ≠ Str.ofString "__name__") (hk : f.cs.names.lookup x = some .globalImplicit) (hb : (x == ("__debug__" : Str)) = false) :
    ∀ (c : Cx) (s : Shared) (Q E : Value → Shared → Prop), Cx.Ok w d f c → At w f c N H s.heap → Q y s → wpAny (model PW w) (c.A f) (eval (.Name x pos) (c.env f)) Q E s := by
  intro c s Q E ok at' ret
  obtain ⟨m, F⟩ := at'.fr
  exact nameX_B F ok.X (topRead_of ok.T) (e _) hv hn ret ok.g.hk hk hb
/-- a builtin name, in the program's own text -/
structure BName (x : Str) (y : Value) : Prop where
  e : ∀ P, nsIn (KF P) mainGlobals x = some none
  hv : bootBuiltins x = some y
  hn : x ≠ Str.ofString "__name__"
  hb : (x == ("__debug__" : Str)) = false
theorem Ev.bcall1 {x : Str} {id : String} {e : PySem.Expr} {KA : List SV → Hp → Prop} {K : SV → Hp → Prop} {np pos : Pos} (hx : BName x (.builtin id)) (hk : f.cs.names.lookup x = some .globalImplicit) (ha : EvL w d f N H [e] KA)
    (hb : ∀ vs H1, KA vs H1 → ∀ (c : Cx) (s : Shared) (Q E : Value → Shared → Prop) ys, Cx.Ok w d f c → At w f c N H1 s.heap → DenL vs ys → (∀ v y H' h' tk', K v H' → Den v y → At w f c N H' h' → Q y { s with heap := h', toks := tk' }) → wpAny (model PW w) (c.A f) (PySem.call (.builtin id) ys) Q E s)
    (hm : ∀ env, eval (.Call (.Name x np) [e] [] pos) env = (do callWith pos (← eval (.Name x np) env) [] (backTo pos (starEach [e] env)) (backToKw pos (keywordEach [] env))) := by intros; with_unfolding_all exact rfl)
    (h1 : ∀ env, starEach [e] env = (false, eval e env) :: starEach [] env := by intros; exact starEach_plain rfl) : Ev w d f N H (.Call (.Name x np) [e] [] pos) K := by
  intro c s Q E ok at' ret
  refine Call_ (Ev.bname hx.e hx.hv hx.hn hk hx.hb c s _ E ok at' ?_) (hm _)
  refine PyProof.Rows.callWith_builtin1 (ha pos c s _ E ok at' ?_) (h1 _) rfl
  intro vs ys H2 h2' tk2 hK hD at2
  exact hb vs H2 hK c _ Q E ys ok at2 hD ret
theorem BName.len : BName (Str.ofString "len") (.builtin "len") := ⟨fun P => by rfl, boot_len, by decide, by decide⟩
theorem Ev.len {e : PySem.Expr} {a : Addr} {vs : List SV} {np pos : Pos} (hk : f.cs.names.lookup (Str.ofString "len") = some .globalImplicit) (he : EvP w d f N H e (.ref a)) (ha : H a = some (.lst vs)) (hz : vs.length < 2 ^ 63)
    (hm : ∀ env, eval (.Call (.Name (Str.ofString "len") np) [e] [] pos) env = (do callWith pos (← eval (.Name (Str.ofString "len") np) env) [] (backTo pos (starEach [e] env)) (backToKw pos (keywordEach [] env))) := by intros; with_unfolding_all exact rfl)
    (h1 : ∀ env, starEach [e] env = (false, eval e env) :: starEach [] env := by intros; exact starEach_plain rfl) : EvP w d f N H (.Call (.Name (Str.ofString "len") np) [e] [] pos) (.int vs.length) := by
  refine Ev.bcall1 BName.len hk (EvL.cons he .nil h1) ?_ hm h1
  intro vs1 H1 hK c s Q E ys ok at' hD ret
  obtain ⟨rfl, rfl⟩ := hK
  replace hD := hD.cons_inv
  obtain ⟨_, _, e_, h1, h2⟩ := hD
  cases e_
  (first | obtain rfl := h1.ri | obtain ⟨_, rfl⟩ := h1.ii | obtain rfl := h1.ni | obtain rfl := h1.mi | cases h1); (first | obtain rfl := h2.ri | obtain ⟨_, rfl⟩ := h2.ii | obtain rfl := h2.ni | obtain rfl := h2.mi | cases h2)
  have at2 := at'
  obtain ⟨m, news, F, Nw, hN, hH⟩ := at'
  obtain ⟨oa, ma, da⟩ := hH.get ha
  obtain ⟨xs, n, rfl, dL⟩ := da.lst_inv
  have hl : s.heap.IsList a xs.toArray := ⟨_, (Nw _ ma).1, rfl, _, rfl⟩
  have hln := dL.length
  refine PySem.Calls.call_len_list hl (by rw [List.size_toArray, hln]; omega) ?_
  rw [List.size_toArray, hln]
  exact ret _ _ H1 s.heap _ ⟨rfl, rfl⟩ (.int _ _) at2
/-- xs.append(x) -/
theorem Ev.append {o e : PySem.Expr} {a : Addr} {vs0 : List SV} {K1 : SV → Hp → Prop} {K : SV → Hp → Prop} {apos pos : Pos} (ho : EvP w d f N H o (.ref a)) (hi : H a = some (.lst vs0)) (he : Ev w d f N H e K1)
    (hK : ∀ v H1, K1 v H1 → ∃ vs, H1 a = some (.lst vs) ∧ vs.length ≤ 100000 ∧ K .none (H1.set a (.lst (vs ++ [v]))))
    (hm : ∀ env, ∃ pl, eval (.Call (.Attribute o (Str.ofString "append") apos) [e] [] pos) env = (do
      let ov ← eval o env
      standAt apos.atName
      let (g, first) ← holding [ov] (getMethod ov (Str.ofString "append") pl)
      callWith pos g first (backTo pos (starEach [e] env)) []) := by intros; with_unfolding_all exact ⟨_, rfl⟩)
    (h1 : ∀ env, starEach [e] env = (false, eval e env) :: starEach [] env := by intros; exact starEach_plain rfl) : Ev w d f N H (.Call (.Attribute o (Str.ofString "append") apos) [e] [] pos) K := by
  intro c s Q E ok at' ret
  obtain ⟨pl, hm⟩ := hm (c.env f)
  refine MethodCall_ (ho c s _ E ok at' ?_) hm
  intro v1 y1 H1 h1' tk1 hK1 hD1 at2
  obtain ⟨rfl, rfl⟩ := hK1
  (first | obtain rfl := hD1.ri | obtain ⟨_, rfl⟩ := hD1.ii | obtain rfl := hD1.ni | obtain rfl := hD1.mi | cases hD1)
  have at3 := at2
  obtain ⟨m, news, F, Nw, hN, hH⟩ := at2
  obtain ⟨oa, ma, da⟩ := hH.get hi
  obtain ⟨_, n, rfl, dL⟩ := da.lst_inv
  refine kl_method (s := { s with heap := h1', toks := tk1 }) Nw ma PySem.F.slot_list_append PySem.F.type_list_append ?_
  refine callWith_method1 (EvL.consK (K := fun vs H2 => ∃ v, vs = [v] ∧ K1 v H2) he (fun v H2 h => EvL.nilK ⟨v, rfl, h⟩) h1 pos c _ _ E ok at3 ?_) (h1 _) rfl
  intro vs ys H2 h2' tk2 hK2 hD at4
  obtain ⟨v, rfl, hKv⟩ := hK2
  replace hD := hD.cons_inv
  obtain ⟨_, _, e_, hv, hnil⟩ := hD
  cases e_
  (first | obtain rfl := hnil.ri | obtain ⟨_, rfl⟩ := hnil.ii | obtain rfl := hnil.ni | obtain rfl := hnil.mi | cases hnil)
  obtain ⟨m2, news2, F2, Nw2, hN2, hH2⟩ := at4
  obtain ⟨ws, hw, hz, hk⟩ := hK v H2 hKv
  obtain ⟨ob, mb, db⟩ := hH2.get hw
  obtain ⟨xs2, n2, rfl, dL2⟩ := db.lst_inv
  refine append_K (s := { s with heap := h2', toks := tk2 }) F2 (newsOff Nw2 mb) (.head offL_ne) (fun h' F' N' => ?_) (by rw [List.size_toArray, dL2.length]; simp only [sizeLine]; omega)
  rw [List.push_toArray] at N'
  exact ret _ _ _ h' tk2 hk .none ⟨m2, _, F', N', hN2, hH2.put hw (.lst _ (dL2.append (.cons hv .nil)))⟩
end
end Mine
end
section
-- Q3
open PySem PySem.W PyProof.Rows
set_option Elab.async false
set_option maxRecDepth 100000
set_option linter.unusedVariables false
namespace Mine
section
variable {w : World} {d : Nat} {f : FI} {N : List SV} {H : Hp} {K : Fl → List SV → Hp → Prop}
/-- what follows a compound statement -/
noncomputable def kseq (w : World) (d : Nat) (f : FI) (rest : List Stmt) (K : Fl → List SV → Hp → Prop) (fl : Fl) (N : List SV) (H : Hp) : Prop :=
  match fl with
  | .next => Ex w d f N H rest K
  | fl => K fl N H
theorem Ex.nil (h : K .next N H) : Ex w d f N H [] K := fun c s Q E ok pe at' ret => wpAny_execs_nil (ret .next .next N H s.heap s.toks h .next at')
/-- one statement, then the rest -/
noncomputable def St (w : World) (d : Nat) (f : FI) (N : List SV) (H : Hp) (st : Stmt) (K : Fl → List SV → Hp → Prop) : Prop :=
  ∀ (c : Cx) (s : Shared) (Q : Flow → Shared → Prop) (E : Value → Shared → Prop), Cx.Ok w d f c → PassesOwn (model PW w) (c.A f) (c.env f) E → At w f c N H s.heap →
    (∀ fl y N' H' h' tk', K fl N' H' → FlDen fl y → At w f c N' H' h' → Q y { s with heap := h', toks := tk' }) → wpAny (model PW w) (c.A f) (exec st (c.env f)) Q E s
theorem Ex.cons {st : Stmt} {rest : List Stmt} (h : St w d f N H st (kseq w d f rest K)) : Ex w d f N H (st :: rest) K := by
  intro c s Q E ok pe at' ret
  refine wpAny_execs_cons (h c s _ E ok pe at' ?_)
  intro fl y N' H' h' tk' hK hF at1
  cases hF with
  | next => exact hK c _ _ E ok pe at1 ret
  | brk => exact ret _ _ N' H' h' tk' hK .brk at1
  | cont => exact ret _ _ N' H' h' tk' hK .cont at1
  | ret hd => exact ret _ _ N' H' h' tk' hK (.ret hd) at1
theorem Ex.assignK {x : Str} {xp pos : Pos} {e : PySem.Expr} {rest : List Stmt} {K1 : SV → Hp → Prop} {i : Nat} (he : Ev w d f N H e K1) (hx' : VarAt f.vars i x) (h : ∀ v H1, K1 v H1 → Ex w d f (N.set i v) H1 rest K)
    (hm : ∀ env, swapsWith e (some (.Name x xp)) pos.line env = pure false := by intros; with_unfolding_all exact rfl) : Ex w d f N H (.Assign [.Name x xp] e pos :: rest) K := by
  have hx := hx'.at'
  refine Ex.cons ?_
  intro c s Q E ok pe at' ret
  refine wpAny_Assign_Name (he c s _ E ok at' ?_) (hm _)
  intro v y H1 h1 tk1 hK hD at1
  obtain ⟨m, news, F, Nw, hN, hH⟩ := at1
  refine storeX_L (s := { s with heap := h1, toks := tk1 }) F Nw (fun h' F' N' => ?_) ok.g.hk (ok.g.loc x (List.mem_of_getElem? hx)).1
  exact ret .next .next _ H1 h' _ (h v H1 hK) .next ⟨_, news, F', N', hN.set ok.g.nd hx hD, hH⟩
theorem Ex.assign {x : Str} {xp pos : Pos} {e : PySem.Expr} {rest : List Stmt} {v : SV} {i : Nat} (he : EvP w d f N H e v) (hx : VarAt f.vars i x) (h : Ex w d f (N.set i v) H rest K)
    (hm : ∀ env, swapsWith e (some (.Name x xp)) pos.line env = pure false := by intros; with_unfolding_all exact rfl) : Ex w d f N H (.Assign [.Name x xp] e pos :: rest) K :=
  Ex.assignK he hx (fun v' H' hK => by obtain ⟨rfl, rfl⟩ := hK; exact h) hm
theorem Ex.expr {pos : Pos} {e : PySem.Expr} {rest : List Stmt} {K1 : SV → Hp → Prop} (he : Ev w d f N H e K1) (h : ∀ v H1, K1 v H1 → Ex w d f N H1 rest K)
    (hs : ∀ env, swapsWith e none pos.line env = pure false := by intros; with_unfolding_all exact rfl) : Ex w d f N H (.Expr e pos :: rest) K := by
  refine Ex.cons ?_
  intro c s Q E ok pe at' ret
  refine wpAny_Expr_any (he c s _ E ok at' ?_) ?_ (hs _)
  · intro v y H1 h1 tk1 hK hD at1
    exact ret .next .next N H1 h1 tk1 (h v H1 hK) .next at1
  · show (f.cs.kind == .module && _) = false
    rw [ok.g.hk]; rfl
theorem Ex.retK {pos : Pos} {e : PySem.Expr} {rest : List Stmt} (he : Ev w d f N H e (fun v H1 => K (.ret v) N H1)) : Ex w d f N H (.Return (some e) pos :: rest) K := by
  refine Ex.cons ?_
  intro c s Q E ok pe at' ret
  refine wpAny_Return_some (he c s _ E ok at' ?_)
  intro v y H1 h1 tk1 hK hD at1
  exact ret (.ret v) (.ret y) N H1 h1 tk1 hK (.ret hD) at1
theorem Ex.ret {pos : Pos} {e : PySem.Expr} {rest : List Stmt} {v : SV} (he : EvP w d f N H e v) (h : K (.ret v) N H) : Ex w d f N H (.Return (some e) pos :: rest) K :=
  Ex.retK (he.mono fun v' H' hK => by obtain ⟨rfl, rfl⟩ := hK; exact h)
theorem Ex.cont {pos : Pos} {rest : List Stmt} (h : K .cont N H) : Ex w d f N H (.Continue pos :: rest) K :=
  Ex.cons fun c s Q E ok pe at' ret => by
    refine wpAny_Continue ?_
    exact ret .cont .cont N H s.heap s.toks h .cont at'
theorem Ex.iteK {t : PySem.Expr} {body orelse rest : List Stmt} {pos : Pos} {K1 : Bool → Hp → Prop} (ht : EvB w d f N H t K1) (h1 : ∀ H1, K1 true H1 → Ex w d f N H1 body (kseq w d f rest K)) (h2 : ∀ H1, K1 false H1 → Ex w d f N H1 orelse (kseq w d f rest K)) :
    Ex w d f N H (.If t body orelse pos :: rest) K := by
  refine Ex.cons ?_
  intro c s Q E ok pe at' ret
  refine wpAny_If (ht c s _ E ok at' ?_)
  intro b' H1 h1' tk1 hK at1
  cases b' with
  | true => exact h1 _ hK c _ Q E ok pe at1 ret
  | false => exact h2 _ hK c _ Q E ok pe at1 ret
theorem Ex.ite {t : PySem.Expr} {body orelse rest : List Stmt} {pos : Pos} {b : Bool} (ht : EvBP w d f N H t b) (h1 : b = true → Ex w d f N H body (kseq w d f rest K)) (h2 : b = false → Ex w d f N H orelse (kseq w d f rest K)) :
    Ex w d f N H (.If t body orelse pos :: rest) K :=
  Ex.iteK ht (fun H1 hK => by obtain ⟨rfl, rfl⟩ := hK; exact h1 rfl) (fun H1 hK => by obtain ⟨e, rfl⟩ := hK; exact h2 e.symm)
theorem Ex.iteF {t : PySem.Expr} {body orelse rest : List Stmt} {pos : Pos} {b : Bool} (ht : EvBP w d f N H t b) (hb : b = false) (h1 : Ex w d f N H orelse (kseq w d f rest K)) : Ex w d f N H (.If t body orelse pos :: rest) K :=
  Ex.ite ht (fun e => by rw [hb] at e; cases e) (fun _ => h1)
/-- x += e -/
theorem Ex.aug {x : Str} {xp pos : Pos} {e : PySem.Expr} {rest : List Stmt} {a b : Int} {i : Nat} (hx' : VarAt f.vars i x) (hv : N[i]? = some (.int a)) (he : EvP w d f N H e (.int b)) (h : Ex w d f (N.set i (.int (a + b))) H rest K) : Ex w d f N H (.AugAssign (.Name x xp) .Add e pos :: rest) K := by
  have hx := hx'.at'
  refine Ex.cons ?_
  intro c s Q E ok pe at' ret
  refine wpAny_AugAssign_Name ?_
  have at0 := at'
  obtain ⟨m, news, F, Nw, hN, hH⟩ := at'
  obtain ⟨y, hy, hd⟩ := hN i x _ hx hv (by intro q; cases q)
  have hl := ok.g.loc x (List.mem_of_getElem? hx)
  refine wpAny_loadName_local ok.g.hk hl.1 F.ns hy ?_
  refine he c s _ E ok at0 ?_
  intro v1 y1 H1 h1 tk1 hK hD1 at1
  obtain ⟨rfl, rfl⟩ := hK
  (first | obtain rfl := hD1.ri | obtain ⟨_, rfl⟩ := hD1.ii | obtain rfl := hD1.ni | obtain rfl := hD1.mi | cases hD1)
  (first | obtain rfl := hd.ri | obtain ⟨_, rfl⟩ := hd.ii | obtain rfl := hd.ni | obtain rfl := hd.mi | cases hd)
  refine iadd_int ?_
  obtain ⟨m2, news2, F2, Nw2, hN2, hH2⟩ := at1
  refine storeX_L (s := { s with heap := h1, toks := _ }) F2 Nw2 (fun h' F' N' => ?_) ok.g.hk hl.1
  exact ret .next .next _ _ h' _ h .next ⟨_, _, F', N', hN2.set ok.g.nd hx (.int _ _), hH2⟩
/-! while, by a state -/
theorem Ex.while {σ : Type} {t : PySem.Expr} {body rest : List Stmt} {pos : Pos} (I : σ → List SV → Hp → Prop) (μ : σ → Nat) (X : List SV → Hp → Prop) (c0 : σ) (hI : I c0 N H)
    (turn : ∀ c N H, I c N H → EvB w d f N H t fun b H1 => if b = true then Ex w d f N H1 body (fun fl N' H' => match fl with
      | .next => ∃ c', μ c' < μ c ∧ I c' N' H'
      | .cont => ∃ c', μ c' < μ c ∧ I c' N' H'
      | .brk => X N' H'
      | .ret v => K (.ret v) N' H') else X N H1)
    (exit : ∀ N H, X N H → Ex w d f N H rest K) : Ex w d f N H (.While t body [] pos :: rest) K := by
  refine Ex.cons ?_
  intro c s Q E ok pe at' ret
  refine whl_start 0 ?_
  have all : ∀ n, ∀ (st : σ) N H h tk, μ st < n → I st N H → At w f c N H h → ∀ k, WhlRest PW w (c.A f) E (c.env f) t body [] Q k { s with heap := h, toks := tk } := by
    intro n
    induction n with
    | zero => intro st N H h tk hn; exact absurd hn (Nat.not_lt_zero _)
    | succ n ih =>
      intro st N H h tk hn hI at1 k
      show WhlRest PW w (c.A f) E (c.env f) t body [] Q (0 + 1) { s with heap := h, toks := tk }
      refine whl_turn pe (turn st N H hI c _ _ E ok at1 ?_)
      intro b H1 h1 tk1 hK at2
      cases b with
      | false =>
        refine WhlIf.no rfl ?_
        rw [if_neg Bool.false_ne_true] at hK
        exact wpAny_execs_nil (ret .next .next N H1 h1 tk1 (exit _ _ hK) .next at2)
      | true =>
        refine WhlIf.yes rfl ?_
        rw [if_pos rfl] at hK
        refine hK c _ _ E ok pe at2 ?_
        intro fl y N' H' h' tk' hK2 hF at3
        cases hF with
        | next => obtain ⟨c', hlt, hI'⟩ := hK2; exact ih c' N' H' h' tk' (by omega) hI' at3 0
        | cont => obtain ⟨c', hlt, hI'⟩ := hK2; exact ih c' N' H' h' tk' (by omega) hI' at3 0
        | brk => exact ret .next .next N' H' h' tk' (exit _ _ hK2) .next at3
        | ret hd => exact ret (.ret _) (.ret _) N' H' h' tk' hK2 (.ret hd) at3
  exact all (μ c0 + 1) c0 N H s.heap s.toks (Nat.lt_succ_self _) hI at' 0
end
section
variable {w : World} {d : Nat} {f : FI} {N : List SV} {H : Hp} {K : Fl → List SV → Hp → Prop}
theorem EvB.tt {k : Nat} {pos : Pos} {K1 : Bool → Hp → Prop} (h : K1 true H) : EvB w d f N H (.Constant (.bool true) k pos) K1 := by
  intro c s Q E ok at' ret
  refine isTrue_plain (wpAny_Constant_bool (wpAny_truthy_bool ?_)) rfl
  exact ret true H s.heap s.toks h at'
theorem Ex.whileT {σ : Type} {k : Nat} {body rest : List Stmt} {tp pos : Pos} (I : σ → List SV → Hp → Prop) (μ : σ → Nat) (X : List SV → Hp → Prop) (c0 : σ) (hI : I c0 N H)
    (turn : ∀ c N H, I c N H → Ex w d f N H body (fun fl N' H' => match fl with
      | .next => ∃ c', μ c' < μ c ∧ I c' N' H'
      | .cont => ∃ c', μ c' < μ c ∧ I c' N' H'
      | .brk => X N' H'
      | .ret v => K (.ret v) N' H'))
    (exit : ∀ N H, X N H → Ex w d f N H rest K) : Ex w d f N H (.While (.Constant (.bool true) k tp) body [] pos :: rest) K :=
  Ex.while I μ X c0 hI (fun c N H h => EvB.tt ((if_pos rfl).mpr (turn c N H h))) exit
end
theorem DenL.n1 {a : SV} {ys : List Value} (h : DenL [a] ys) : ∃ x, ys = [x] := by
  cases h with | cons _ h => cases h; exact ⟨_, rfl⟩
theorem DenL.n2 {a b : SV} {ys : List Value} (h : DenL [a, b] ys) : ∃ x y, ys = [x, y] := by
  cases h with | cons _ h => obtain ⟨y, rfl⟩ := h.n1; exact ⟨_, _, rfl⟩
theorem DenL.n3 {a b c : SV} {ys : List Value} (h : DenL [a, b, c] ys) : ∃ x y z, ys = [x, y, z] := by
  cases h with | cons _ h => obtain ⟨y, z, rfl⟩ := h.n2; exact ⟨_, _, _, rfl⟩
theorem DenL.n4 {a b c d : SV} {ys : List Value} (h : DenL [a, b, c, d] ys) : ∃ x y z u, ys = [x, y, z, u] := by
  cases h with | cons _ h => obtain ⟨y, z, u, rfl⟩ := h.n3; exact ⟨_, _, _, _, rfl⟩
theorem DenL.n5 {a b c d e : SV} {ys : List Value} (h : DenL [a, b, c, d, e] ys) : ∃ x y z u v, ys = [x, y, z, u, v] := by
  cases h with | cons _ h => obtain ⟨y, z, u, v, rfl⟩ := h.n4; exact ⟨_, _, _, _, _, rfl⟩
/-! a function's body -/
theorem lookup_zip {pn : List Str} {vs : List SV} {ys : List Value} (hd : DenL vs ys) : ∀ (i : Nat) {x : Str} {v : SV}, pn.Nodup → pn[i]? = some x → vs[i]? = some v → ∃ y, (pn.zip ys).lookup x = some y ∧ Den v y := by
  induction hd generalizing pn with
  | nil => intro i x v _ _ e; simp at e
  | cons hd0 hdl ih =>
    rename_i v0 y0 vs0 ys0
    intro i x v hn hx hv
    cases pn with
    | nil => simp at hx
    | cons p pn =>
      cases i with
      | zero =>
        simp at hx hv
        subst hx; subst hv
        exact ⟨y0, by rw [List.zip_cons_cons, List.lookup_cons, beq_self_eq_true], hd0⟩
      | succ i =>
        simp at hx hv
        obtain ⟨y, e, d⟩ := ih i (List.nodup_cons.mp hn).2 hx hv
        refine ⟨y, ?_, d⟩
        have hne : (x == p) = false := beq_eq_false_iff_ne.mpr (fun q => (List.nodup_cons.mp hn).1 (q ▸ List.mem_of_getElem? hx))
        rw [List.zip_cons_cons, List.lookup_cons, hne]
        exact e
theorem lookup_reverse {l : List (Str × Value)} (hn : (l.map (·.1)).Nodup) (x : Str) : l.reverse.lookup x = l.lookup x := by
  induction l with
  | nil => rfl
  | cons p l ih =>
    rw [List.map_cons, List.nodup_cons] at hn
    rw [List.reverse_cons, List.lookup_append, ih hn.2]
    obtain ⟨k, v⟩ := p
    rw [List.lookup_cons]
    by_cases hx : x = k
    · subst hx
      have h0 : l.lookup x = none := List.lookup_eq_none_iff.mpr (fun p hp => by
        simp only [bne_iff_ne, ne_eq]; intro q; exact hn.1 (List.mem_map.mpr ⟨p, hp, q.symm⟩))
      simp [h0, List.lookup_cons]
    · have hf : (x == k) = false := beq_eq_false_iff_ne.mpr hx
      simp [hf, List.lookup_cons]
theorem NOK.start {f : FI} {pn rest : List Str} {vs : List SV} {ys : List Value} (hv : f.vars = pn ++ rest) (hn : f.vars.Nodup) (hl : vs.length = pn.length) (hd : DenL vs ys) : NOK f (vs ++ List.replicate rest.length .unb) (fun x => ((pn.zip ys).reverse).lookup x) := by
  intro i x v hx hv' hne
  have hpn : pn.Nodup := by rw [hv] at hn; exact (List.nodup_append.mp hn).1
  have hk : ((pn.zip ys).map (·.1)).Nodup := by
    rw [List.map_fst_zip (by rw [hd.length, hl]; exact Nat.le_refl _)]
    exact hpn
  by_cases hi : i < pn.length
  · rw [hv, List.getElem?_append_left hi] at hx
    rw [List.getElem?_append_left (by omega)] at hv'
    obtain ⟨y, e, d⟩ := lookup_zip hd i hpn hx hv'
    exact ⟨y, (lookup_reverse hk x).trans e, d⟩
  · rw [List.getElem?_append_right (by omega)] at hv'
    rw [List.getElem?_replicate] at hv'
    split at hv'
    · cases hv'; exact absurd rfl hne
    · cases hv'
noncomputable def kret (K : SV → Hp → Prop) (fl : Fl) (_N : List SV) (H : Hp) : Prop :=
  match fl with
  | .ret v => K v H
  | .next => K .none H
  | _ => False
theorem Sp.body {w : World} {d : Nat} {args args' : List SV} {H : Hp} {K : SV → Hp → Prop} {fi : FI} {pn rest : List Str} {N : List SV} {name : Str} {params : Arguments} {body : List Stmt} {dV kV doc pm ct oc : Value} {an od : Option Addr} {osl : Array (Option Value)}
    (ho : ∀ P, (KF P).lookup fi.fa = some ⟨oc, od, .func (fnOf name fi.cn params body fi.cs dV kV doc pm an fi.cd ct), osl⟩) (hcd : ∀ P, codeIn (KF P) fi.cd fi.cn = true) (hg : fi.Good) (hv : fi.vars = pn ++ rest) (hl : args'.length = pn.length)
    (hb : ∀ (s : Shared) ys, (KF w.params).In s.heap → DenL args ys → ∃ zs, DenL args' zs ∧ BindsTo s (fnOf name fi.cn params body fi.cs dV kV doc pm an fi.cd ct) ⟨ys, []⟩ (pn.zip zs))
    (hN : args' ++ List.replicate rest.length .unb = N) (hd : d ≤ 90) (hbody : Ex w (d + 1) fi N H body (kret K))
    (hco : fi.cs.isCoroutine = false := by with_unfolding_all exact rfl) (hgen : fi.cs.isGenerator = false := by with_unfolding_all exact rfl) (hcell : ∀ x ∈ fi.cs.names, x.2 ≠ .cell := by decide) (hcl : fi.cl = [] := by exact rfl) : Sp w d fi.fa args H K := by
  obtain ⟨fcn, fcs, ffa, fcd, fvars, fcl⟩ := fi
  cases (show fcl = [] from hcl)
  intro ys hy c f m news s R B X T hk dl ul F Nw hH ret
  have X1 : (KF w.params).In s.heap := X.keeps F.keep
  obtain ⟨zs, hz, hbind⟩ := hb s ys X1 hy
  refine code_def B F X Nw T rfl rfl hk (ho _) (hcd _) (by show c.dp < recursionLimit; simp only [recursionLimit]; omega) hbind ?_ ?_ hco hgen hg.hk hcell
  · intro y hy
    have := (List.of_mem_zip (show (y.1, y.2) ∈ pn.zip zs from hy)).1
    exact (hg.loc y.1 (by rw [hv]; exact List.mem_append_left _ this)).1
  · intro g L' h₁ FG F' N' B' X' T'
    have ok : Cx.Ok w (d + 1) ⟨fcn, fcs, ffa, fcd, fvars, []⟩ { c with dp := c.dp + 1, un := c.un + 3, outer := c.env f :: c.outer, A₀ := c.A f, h₀ := g, L := L' } := ⟨B', X', T', by show c.dp + 1 ≤ d + 1 + 400; omega, by show c.un + 3 ≤ 10 * (d + 1); omega, by omega, hg⟩
    refine hbody { c with dp := c.dp + 1, un := c.un + 3, outer := c.env f :: c.outer, A₀ := c.A f, h₀ := g, L := L' } { s with heap := h₁, toks := _ } _ _ ok PassesOwn.leaving ⟨_, news, F', N', hN ▸ NOK.start hv hg.nd hl hz, hH⟩ ?_
    intro fl y N2 H2 h2 tk2 hK hF at2
    obtain ⟨m2, news2, F2, Nw2, hN2, hH2⟩ := at2
    refine leaveK_ F2 Nw2 fun F3 N3 => ?_
    cases hF with
    | next => exact ret .none .none H2 news2 h2 tk2 hK .none F3 N3 hH2
    | brk => exact hK.elim
    | cont => exact hK.elim
    | ret hd => exact ret _ _ H2 news2 h2 tk2 hK hd F3 N3 hH2
theorem Sp.fn {w : World} {d : Nat} {args : List SV} {H : Hp} {K : SV → Hp → Prop} {fi : FI} (pn rest : List Str) {N : List SV} {name : Str} {params : Arguments} {body : List Stmt} {dV kV doc pm ct oc : Value} {an od : Option Addr} {osl : Array (Option Value)}
    (ho : ∀ P, (KF P).lookup fi.fa = some ⟨oc, od, .func (fnOf name fi.cn params body fi.cs dV kV doc pm an fi.cd ct), osl⟩) (hcd : ∀ P, codeIn (KF P) fi.cd fi.cn = true) (hg : fi.Good) (hv : fi.vars = pn ++ rest) (hl : args.length = pn.length)
    (hb : ∀ ys, DenL args ys → bindArgs (fnOf name fi.cn params body fi.cs dV kV doc pm an fi.cd ct) ⟨ys, []⟩ = pure (pn.zip ys))
    (hN : args ++ List.replicate rest.length .unb = N) (hd : d ≤ 90) (hbody : Ex w (d + 1) fi N H body (kret K))
    (hco : fi.cs.isCoroutine = false := by with_unfolding_all exact rfl) (hgen : fi.cs.isGenerator = false := by with_unfolding_all exact rfl) (hcell : ∀ x ∈ fi.cs.names, x.2 ≠ .cell := by decide) (hcl : fi.cl = [] := by exact rfl) : Sp w d fi.fa args H K :=
  Sp.body ho hcd hg hv hl (fun s ys X hd => ⟨ys, hd, BindsTo.of_eq (hb ys hd)⟩) hN hd hbody hco hgen hcell hcl
/-! making instances, storing attributes: what the classes say -/
structure MkCls (C fI : Addr) : Prop where
  mi : ∀ P, makesIn (KF P) C = true
  fi : ∀ P, findIn (KF P) (.ref C) (Str.ofString "__init__") = some (some (.ref fI))
  fn : ∀ P, isFn (KF P) (.ref fI) = true
structure ClsSet (C : Addr) (x : Str) : Prop where
  hs : ∀ P, findIn (KF P) (.ref C) (Str.ofString "__setattr__") = some (some (.builtin "object.__setattr__"))
  hp : ∀ P, plainOver (KF P) C = true
  ht : ∀ P, takerIn (KF P) C x = some none
  hh : ∀ P, hasDictIn (KF P) C = true
end Mine
end
section
-- Q4
open PySem PySem.W PyProof.Rows
set_option Elab.async false
set_option maxRecDepth 100000
set_option linter.unusedVariables false
namespace Mine
noncomputable abbrev F60 : FI := ⟨Str.ofString "fixed_atoms", { kind := .function, names := [], isGenerator := false, isCoroutine := false }, 60, .ref 59, [], []⟩
theorem F60.good : F60.Good := ⟨rfl, by decide, by decide⟩
-- 60 fixed_atoms locals []
noncomputable abbrev F67 : FI := ⟨Str.ofString "fixed_functors", { kind := .function, names := [], isGenerator := false, isCoroutine := false }, 67, .ref 66, [], []⟩
theorem F67.good : F67.Good := ⟨rfl, by decide, by decide⟩
-- 67 fixed_functors locals []
noncomputable abbrev F81 : FI := ⟨Str.ofString "Symbols.__init__", { kind := .function, names := [(Str.ofString "self", .local), (Str.ofString "text", .local), (Str.ofString "row", .local), (Str.ofString "fixed_atoms", .globalImplicit), (Str.ofString "fixed_functors", .globalImplicit)], isGenerator := false, isCoroutine := false }, 81, .ref 80, [Str.ofString "self", Str.ofString "text", Str.ofString "row"], []⟩
theorem F81.good : F81.Good := ⟨rfl, by decide, by decide⟩
-- 81 Symbols.__init__ locals [(0, 'self'), (1, 'text'), (2, 'row')]
noncomputable abbrev F88 : FI := ⟨Str.ofString "Symbols.atom", { kind := .function, names := [(Str.ofString "self", .local), (Str.ofString "text", .local), (Str.ofString "found", .local), (Str.ofString "number", .local), (Str.ofString "len", .globalImplicit)], isGenerator := false, isCoroutine := false }, 88, .ref 87, [Str.ofString "self", Str.ofString "text", Str.ofString "found", Str.ofString "number"], []⟩
theorem F88.good : F88.Good := ⟨rfl, by decide, by decide⟩
-- 88 Symbols.atom locals [(0, 'self'), (1, 'text'), (2, 'found'), (3, 'number')]
noncomputable abbrev F95 : FI := ⟨Str.ofString "Symbols.text", { kind := .function, names := [(Str.ofString "self", .local), (Str.ofString "number", .local)], isGenerator := false, isCoroutine := false }, 95, .ref 94, [Str.ofString "self", Str.ofString "number"], []⟩
theorem F95.good : F95.Good := ⟨rfl, by decide, by decide⟩
-- 95 Symbols.text locals [(0, 'self'), (1, 'number')]
noncomputable abbrev F102 : FI := ⟨Str.ofString "Symbols.functor", { kind := .function, names := [(Str.ofString "self", .local), (Str.ofString "atom", .local), (Str.ofString "arity", .local), (Str.ofString "key", .local), (Str.ofString "found", .local), (Str.ofString "number", .local), (Str.ofString "len", .globalImplicit)], isGenerator := false, isCoroutine := false }, 102, .ref 101, [Str.ofString "self", Str.ofString "atom", Str.ofString "arity", Str.ofString "key", Str.ofString "found", Str.ofString "number"], []⟩
theorem F102.good : F102.Good := ⟨rfl, by decide, by decide⟩
-- 102 Symbols.functor locals [(0, 'self'), (1, 'atom'), (2, 'arity'), (3, 'key'), (4, 'found'), (5, 'number')]
noncomputable abbrev F109 : FI := ⟨Str.ofString "Symbols.func", { kind := .function, names := [(Str.ofString "self", .local), (Str.ofString "text", .local), (Str.ofString "arity", .local)], isGenerator := false, isCoroutine := false }, 109, .ref 108, [Str.ofString "self", Str.ofString "text", Str.ofString "arity"], []⟩
theorem F109.good : F109.Good := ⟨rfl, by decide, by decide⟩
-- 109 Symbols.func locals [(0, 'self'), (1, 'text'), (2, 'arity')]
-- 116 Symbols.name locals [(0, 'self'), (1, 'functor')]
noncomputable abbrev F123 : FI := ⟨Str.ofString "Symbols.arity", { kind := .function, names := [(Str.ofString "self", .local), (Str.ofString "functor", .local)], isGenerator := false, isCoroutine := false }, 123, .ref 122, [Str.ofString "self", Str.ofString "functor"], []⟩
theorem F123.good : F123.Good := ⟨rfl, by decide, by decide⟩
-- 123 Symbols.arity locals [(0, 'self'), (1, 'functor')]
-- 137 Symbols.count locals [(0, 'self')]
noncomputable abbrev F194 : FI := ⟨Str.ofString "Cells.__init__", { kind := .function, names := [(Str.ofString "self", .local), (Str.ofString "symbols", .local), (Str.ofString "max_heap", .local)], isGenerator := false, isCoroutine := false }, 194, .ref 193, [Str.ofString "self", Str.ofString "symbols", Str.ofString "max_heap"], []⟩
theorem F194.good : F194.Good := ⟨rfl, by decide, by decide⟩
-- 194 Cells.__init__ locals [(0, 'self'), (1, 'symbols'), (2, 'max_heap')]
noncomputable abbrev F201 : FI := ⟨Str.ofString "Cells.push", { kind := .function, names := [(Str.ofString "self", .local), (Str.ofString "cell", .local), (Str.ofString "address", .local), (Str.ofString "len", .globalImplicit), (Str.ofString "resource_error", .globalImplicit)], isGenerator := false, isCoroutine := false }, 201, .ref 200, [Str.ofString "self", Str.ofString "cell", Str.ofString "address"], []⟩
theorem F201.good : F201.Good := ⟨rfl, by decide, by decide⟩
-- 201 Cells.push locals [(0, 'self'), (1, 'cell'), (2, 'address')]
noncomputable abbrev F208 : FI := ⟨Str.ofString "Cells.new_var", { kind := .function, names := [(Str.ofString "self", .local), (Str.ofString "cell", .local), (Str.ofString "REF", .globalImplicit), (Str.ofString "len", .globalImplicit)], isGenerator := false, isCoroutine := false }, 208, .ref 207, [Str.ofString "self", Str.ofString "cell"], []⟩
theorem F208.good : F208.Good := ⟨rfl, by decide, by decide⟩
-- 208 Cells.new_var locals [(0, 'self'), (1, 'cell')]
noncomputable abbrev F215 : FI := ⟨Str.ofString "Cells.reserve", { kind := .function, names := [(Str.ofString "self", .local), (Str.ofString "count", .local), (Str.ofString "first", .local), (Str.ofString "step", .local), (Str.ofString "len", .globalImplicit), (Str.ofString "resource_error", .globalImplicit), (Str.ofString "range", .globalImplicit), (Str.ofString "REF", .globalImplicit)], isGenerator := false, isCoroutine := false }, 215, .ref 214, [Str.ofString "self", Str.ofString "count", Str.ofString "first", Str.ofString "step"], []⟩
theorem F215.good : F215.Good := ⟨rfl, by decide, by decide⟩
-- 215 Cells.reserve locals [(0, 'self'), (1, 'count'), (2, 'first'), (3, 'step')]
noncomputable abbrev F229 : FI := ⟨Str.ofString "Cells.deref", { kind := .function, names := [(Str.ofString "self", .local), (Str.ofString "cell", .local), (Str.ofString "tag", .local), (Str.ofString "found", .local), (Str.ofString "REF", .globalImplicit), (Str.ofString "SRF", .globalImplicit)], isGenerator := false, isCoroutine := false }, 229, .ref 228, [Str.ofString "self", Str.ofString "cell", Str.ofString "tag", Str.ofString "found"], []⟩
theorem F229.good : F229.Good := ⟨rfl, by decide, by decide⟩
-- 229 Cells.deref locals [(0, 'self'), (1, 'cell'), (2, 'tag'), (3, 'found')]
noncomputable abbrev F257 : FI := ⟨Str.ofString "Cells.globalise", { kind := .function, names := [(Str.ofString "self", .local), (Str.ofString "cell", .local), (Str.ofString "fresh", .local), (Str.ofString "SRF", .globalImplicit)], isGenerator := false, isCoroutine := false }, 257, .ref 256, [Str.ofString "self", Str.ofString "cell", Str.ofString "fresh"], []⟩
theorem F257.good : F257.Good := ⟨rfl, by decide, by decide⟩
-- 257 Cells.globalise locals [(0, 'self'), (1, 'cell'), (2, 'fresh')]
noncomputable abbrev F285 : FI := ⟨Str.ofString "Cells.is_compound", { kind := .function, names := [(Str.ofString "self", .local), (Str.ofString "cell", .local), (Str.ofString "STR", .globalImplicit), (Str.ofString "LIS", .globalImplicit)], isGenerator := false, isCoroutine := false }, 285, .ref 284, [Str.ofString "self", Str.ofString "cell"], []⟩
theorem F285.good : F285.Good := ⟨rfl, by decide, by decide⟩
-- 285 Cells.is_compound locals [(0, 'self'), (1, 'cell')]
noncomputable abbrev F292 : FI := ⟨Str.ofString "Cells.functor_of", { kind := .function, names := [(Str.ofString "self", .local), (Str.ofString "cell", .local), (Str.ofString "tag", .local), (Str.ofString "STR", .globalImplicit), (Str.ofString "LIS", .globalImplicit), (Str.ofString "F_DOT", .globalImplicit), (Str.ofString "CON", .globalImplicit)], isGenerator := false, isCoroutine := false }, 292, .ref 291, [Str.ofString "self", Str.ofString "cell", Str.ofString "tag"], []⟩
theorem F292.good : F292.Good := ⟨rfl, by decide, by decide⟩
-- 292 Cells.functor_of locals [(0, 'self'), (1, 'cell'), (2, 'tag')]
noncomputable abbrev F299 : FI := ⟨Str.ofString "Cells.width", { kind := .function, names := [(Str.ofString "self", .local), (Str.ofString "cell", .local), (Str.ofString "tag", .local), (Str.ofString "LIS", .globalImplicit), (Str.ofString "STR", .globalImplicit)], isGenerator := false, isCoroutine := false }, 299, .ref 298, [Str.ofString "self", Str.ofString "cell", Str.ofString "tag"], []⟩
theorem F299.good : F299.Good := ⟨rfl, by decide, by decide⟩
-- 299 Cells.width locals [(0, 'self'), (1, 'cell'), (2, 'tag')]
noncomputable abbrev F306 : FI := ⟨Str.ofString "Cells.base", { kind := .function, names := [(Str.ofString "self", .local), (Str.ofString "cell", .local), (Str.ofString "LIS", .globalImplicit)], isGenerator := false, isCoroutine := false }, 306, .ref 305, [Str.ofString "self", Str.ofString "cell"], []⟩
theorem F306.good : F306.Good := ⟨rfl, by decide, by decide⟩
-- 306 Cells.base locals [(0, 'self'), (1, 'cell')]
noncomputable abbrev F320 : FI := ⟨Str.ofString "Cells.new_block", { kind := .function, names := [(Str.ofString "self", .local), (Str.ofString "f", .local), (Str.ofString "start", .local), (Str.ofString "F_DOT", .globalImplicit), (Str.ofString "LIS", .globalImplicit), (Str.ofString "FUN", .globalImplicit), (Str.ofString "STR", .globalImplicit)], isGenerator := false, isCoroutine := false }, 320, .ref 319, [Str.ofString "self", Str.ofString "f", Str.ofString "start"], []⟩
theorem F320.good : F320.Good := ⟨rfl, by decide, by decide⟩
-- 320 Cells.new_block locals [(0, 'self'), (1, 'f'), (2, 'start')]
noncomputable abbrev F341 : FI := ⟨Str.ofString "Store.new_struct", { kind := .function, names := [(Str.ofString "self", .local), (Str.ofString "f", .local), (Str.ofString "cells", .local), (Str.ofString "values", .local), (Str.ofString "cell", .local), (Str.ofString "made", .local), (Str.ofString "place", .local), (Str.ofString "value", .local), (Str.ofString "len", .globalImplicit), (Str.ofString "CON", .globalImplicit)], isGenerator := false, isCoroutine := false }, 341, .ref 340, [Str.ofString "self", Str.ofString "f", Str.ofString "cells", Str.ofString "values", Str.ofString "cell", Str.ofString "made", Str.ofString "place", Str.ofString "value"], []⟩
theorem F341.good : F341.Good := ⟨rfl, by decide, by decide⟩
-- 341 Store.new_struct locals [(0, 'self'), (1, 'f'), (2, 'cells'), (3, 'values'), (4, 'cell'), (5, 'made'), (6, 'place'), (7, 'value')]
noncomputable abbrev F396 : FI := ⟨Str.ofString "PairSet.__init__", { kind := .function, names := [(Str.ofString "self", .local), (Str.ofString "store", .local), (Str.ofString "len", .globalImplicit), (Str.ofString "set", .globalImplicit)], isGenerator := false, isCoroutine := false }, 396, .ref 395, [Str.ofString "self", Str.ofString "store"], []⟩
theorem F396.good : F396.Good := ⟨rfl, by decide, by decide⟩
-- 396 PairSet.__init__ locals [(0, 'self'), (1, 'store')]
noncomputable abbrev F403 : FI := ⟨Str.ofString "PairSet.add", { kind := .function, names := [(Str.ofString "self", .local), (Str.ofString "left", .local), (Str.ofString "right", .local), (Str.ofString "number", .local)], isGenerator := false, isCoroutine := false }, 403, .ref 402, [Str.ofString "self", Str.ofString "left", Str.ofString "right", Str.ofString "number"], []⟩
theorem F403.good : F403.Good := ⟨rfl, by decide, by decide⟩
-- 403 PairSet.add locals [(0, 'self'), (1, 'left'), (2, 'right'), (3, 'number')]
noncomputable abbrev F417 : FI := ⟨Str.ofString "push_pairs", { kind := .function, names := [(Str.ofString "store", .local), (Str.ofString "left", .local), (Str.ofString "right", .local), (Str.ofString "work", .local), (Str.ofString "left_place", .local), (Str.ofString "right_place", .local), (Str.ofString "step", .local), (Str.ofString "range", .globalImplicit)], isGenerator := false, isCoroutine := false }, 417, .ref 416, [Str.ofString "store", Str.ofString "left", Str.ofString "right", Str.ofString "work", Str.ofString "left_place", Str.ofString "right_place", Str.ofString "step"], []⟩
theorem F417.good : F417.Good := ⟨rfl, by decide, by decide⟩
-- 417 push_pairs locals [(0, 'store'), (1, 'left'), (2, 'right'), (3, 'work'), (4, 'left_place'), (5, 'right_place'), (6, 'step')]
noncomputable abbrev F424 : FI := ⟨Str.ofString "rank", { kind := .function, names := [(Str.ofString "cell", .local), (Str.ofString "tag", .local), (Str.ofString "INT", .globalImplicit), (Str.ofString "CON", .globalImplicit), (Str.ofString "STR", .globalImplicit), (Str.ofString "LIS", .globalImplicit)], isGenerator := false, isCoroutine := false }, 424, .ref 423, [Str.ofString "cell", Str.ofString "tag"], []⟩
theorem F424.good : F424.Good := ⟨rfl, by decide, by decide⟩
-- 424 rank locals [(0, 'cell'), (1, 'tag')]
noncomputable abbrev F431 : FI := ⟨Str.ofString "order", { kind := .function, names := [(Str.ofString "left", .local), (Str.ofString "right", .local)], isGenerator := false, isCoroutine := false }, 431, .ref 430, [Str.ofString "left", Str.ofString "right"], []⟩
theorem F431.good : F431.Good := ⟨rfl, by decide, by decide⟩
-- 431 order locals [(0, 'left'), (1, 'right')]
noncomputable abbrev F438 : FI := ⟨Str.ofString "compare_shapes", { kind := .function, names := [(Str.ofString "store", .local), (Str.ofString "left", .local), (Str.ofString "right", .local), (Str.ofString "symbols", .local), (Str.ofString "f", .local), (Str.ofString "g", .local), (Str.ofString "result", .local), (Str.ofString "order", .globalImplicit)], isGenerator := false, isCoroutine := false }, 438, .ref 437, [Str.ofString "store", Str.ofString "left", Str.ofString "right", Str.ofString "symbols", Str.ofString "f", Str.ofString "g", Str.ofString "result"], []⟩
theorem F438.good : F438.Good := ⟨rfl, by decide, by decide⟩
-- 438 compare_shapes locals [(0, 'store'), (1, 'left'), (2, 'right'), (3, 'symbols'), (4, 'f'), (5, 'g'), (6, 'result')]
noncomputable abbrev F445 : FI := ⟨Str.ofString "compare_tops", { kind := .function, names := [(Str.ofString "store", .local), (Str.ofString "left", .local), (Str.ofString "right", .local), (Str.ofString "kind", .local), (Str.ofString "result", .local), (Str.ofString "rank", .globalImplicit), (Str.ofString "order", .globalImplicit), (Str.ofString "compare_shapes", .globalImplicit)], isGenerator := false, isCoroutine := false }, 445, .ref 444, [Str.ofString "store", Str.ofString "left", Str.ofString "right", Str.ofString "kind", Str.ofString "result"], []⟩
theorem F445.good : F445.Good := ⟨rfl, by decide, by decide⟩
-- 445 compare_tops locals [(0, 'store'), (1, 'left'), (2, 'right'), (3, 'kind'), (4, 'result')]
noncomputable abbrev F452 : FI := ⟨Str.ofString "compare", { kind := .function, names := [(Str.ofString "store", .local), (Str.ofString "c1", .local), (Str.ofString "c2", .local), (Str.ofString "met", .local), (Str.ofString "work", .local), (Str.ofString "left", .local), (Str.ofString "right", .local), (Str.ofString "result", .local), (Str.ofString "PairSet", .globalImplicit), (Str.ofString "len", .globalImplicit), (Str.ofString "compare_tops", .globalImplicit), (Str.ofString "push_pairs", .globalImplicit)], isGenerator := false, isCoroutine := false }, 452, .ref 451, [Str.ofString "store", Str.ofString "c1", Str.ofString "c2", Str.ofString "met", Str.ofString "work", Str.ofString "left", Str.ofString "right", Str.ofString "result"], []⟩
theorem F452.good : F452.Good := ⟨rfl, by decide, by decide⟩
-- 452 compare locals [(0, 'store'), (1, 'c1'), (2, 'c2'), (3, 'met'), (4, 'work'), (5, 'left'), (6, 'right'), (7, 'result')]
noncomputable abbrev F459 : FI := ⟨Str.ofString "merge", { kind := .function, names := [(Str.ofString "store", .local), (Str.ofString "keys", .local), (Str.ofString "left", .local), (Str.ofString "right", .local), (Str.ofString "unique", .local), (Str.ofString "merged", .local), (Str.ofString "i", .local), (Str.ofString "j", .local), (Str.ofString "result", .local), (Str.ofString "len", .globalImplicit), (Str.ofString "compare", .globalImplicit)], isGenerator := false, isCoroutine := false }, 459, .ref 458, [Str.ofString "store", Str.ofString "keys", Str.ofString "left", Str.ofString "right", Str.ofString "unique", Str.ofString "merged", Str.ofString "i", Str.ofString "j", Str.ofString "result"], []⟩
theorem F459.good : F459.Good := ⟨rfl, by decide, by decide⟩
-- 459 merge locals [(0, 'store'), (1, 'keys'), (2, 'left'), (3, 'right'), (4, 'unique'), (5, 'merged'), (6, 'i'), (7, 'j'), (8, 'result')]
noncomputable abbrev F466 : FI := ⟨Str.ofString "_law_pick", { kind := .function, names := [(Str.ofString "urn", .local), (Str.ofString "faces", .local), (Str.ofString "face", .local), (Str.ofString "len", .globalImplicit), (Str.ofString "abs", .globalImplicit), (Str.ofString "int", .globalImplicit)], isGenerator := false, isCoroutine := false }, 466, .ref 465, [Str.ofString "urn", Str.ofString "faces", Str.ofString "face"], []⟩
theorem F466.good : F466.Good := ⟨rfl, by decide, by decide⟩
-- 466 _law_pick locals [(0, 'urn'), (1, 'faces'), (2, 'face')]
noncomputable abbrev F473 : FI := ⟨Str.ofString "_law_key", { kind := .function, names := [(Str.ofString "heap_cells", .local), (Str.ofString "book", .local), (Str.ofString "level", .local), (Str.ofString "low", .local), (Str.ofString "gap", .local), (Str.ofString "REF", .globalImplicit), (Str.ofString "INT", .globalImplicit), (Str.ofString "CON", .globalImplicit), (Str.ofString "F_DOT", .globalImplicit)], isGenerator := false, isCoroutine := false }, 473, .ref 472, [Str.ofString "heap_cells", Str.ofString "book", Str.ofString "level", Str.ofString "low", Str.ofString "gap"], []⟩
theorem F473.good : F473.Good := ⟨rfl, by decide, by decide⟩
-- 473 _law_key locals [(0, 'heap_cells'), (1, 'book'), (2, 'level'), (3, 'low'), (4, 'gap')]
theorem g_REF {w : World} {d : Nat} {f : FI} {N : List SV} {H : Hp} {pos : Pos} (hk : f.cs.names.lookup (Str.ofString "REF") = some .globalImplicit) : EvP w d f N H (.Name (Str.ofString "REF") pos) (.int 0) := Ev.glob (y := .int 0 408) (fun P => by kernel_rfl) (.int _ _) hk (by decide)
theorem g_SRF {w : World} {d : Nat} {f : FI} {N : List SV} {H : Hp} {pos : Pos} (hk : f.cs.names.lookup (Str.ofString "SRF") = some .globalImplicit) : EvP w d f N H (.Name (Str.ofString "SRF") pos) (.int 1) := Ev.glob (y := .int 1 410) (fun P => by kernel_rfl) (.int _ _) hk (by decide)
theorem g_STR {w : World} {d : Nat} {f : FI} {N : List SV} {H : Hp} {pos : Pos} (hk : f.cs.names.lookup (Str.ofString "STR") = some .globalImplicit) : EvP w d f N H (.Name (Str.ofString "STR") pos) (.int 2) := Ev.glob (y := .int 2 412) (fun P => by kernel_rfl) (.int _ _) hk (by decide)
theorem g_LIS {w : World} {d : Nat} {f : FI} {N : List SV} {H : Hp} {pos : Pos} (hk : f.cs.names.lookup (Str.ofString "LIS") = some .globalImplicit) : EvP w d f N H (.Name (Str.ofString "LIS") pos) (.int 3) := Ev.glob (y := .int 3 414) (fun P => by kernel_rfl) (.int _ _) hk (by decide)
theorem g_CON {w : World} {d : Nat} {f : FI} {N : List SV} {H : Hp} {pos : Pos} (hk : f.cs.names.lookup (Str.ofString "CON") = some .globalImplicit) : EvP w d f N H (.Name (Str.ofString "CON") pos) (.int 4) := Ev.glob (y := .int 4 416) (fun P => by kernel_rfl) (.int _ _) hk (by decide)
theorem g_INT {w : World} {d : Nat} {f : FI} {N : List SV} {H : Hp} {pos : Pos} (hk : f.cs.names.lookup (Str.ofString "INT") = some .globalImplicit) : EvP w d f N H (.Name (Str.ofString "INT") pos) (.int 5) := Ev.glob (y := .int 5 418) (fun P => by kernel_rfl) (.int _ _) hk (by decide)
theorem g_FUN {w : World} {d : Nat} {f : FI} {N : List SV} {H : Hp} {pos : Pos} (hk : f.cs.names.lookup (Str.ofString "FUN") = some .globalImplicit) : EvP w d f N H (.Name (Str.ofString "FUN") pos) (.int 6) := Ev.glob (y := .int 6 420) (fun P => by kernel_rfl) (.int _ _) hk (by decide)
theorem g_F_DOT {w : World} {d : Nat} {f : FI} {N : List SV} {H : Hp} {pos : Pos} (hk : f.cs.names.lookup (Str.ofString "F_DOT") = some .globalImplicit) : EvP w d f N H (.Name (Str.ofString "F_DOT") pos) (.int 0) := Ev.glob (y := .int 0 243) (fun P => by kernel_rfl) (.int _ _) hk (by decide)
theorem g_fixed_atoms {w : World} {d : Nat} {f : FI} {N : List SV} {H : Hp} {pos : Pos} (hk : f.cs.names.lookup (Str.ofString "fixed_atoms") = some .globalImplicit) : EvP w d f N H (.Name (Str.ofString "fixed_atoms") pos) (.ref 60) := Ev.glob (y := .ref 60) (fun P => by kernel_rfl) (.ref _) hk (by decide)
theorem g_fixed_functors {w : World} {d : Nat} {f : FI} {N : List SV} {H : Hp} {pos : Pos} (hk : f.cs.names.lookup (Str.ofString "fixed_functors") = some .globalImplicit) : EvP w d f N H (.Name (Str.ofString "fixed_functors") pos) (.ref 67) := Ev.glob (y := .ref 67) (fun P => by kernel_rfl) (.ref _) hk (by decide)
theorem g_Symbols {w : World} {d : Nat} {f : FI} {N : List SV} {H : Hp} {pos : Pos} (hk : f.cs.names.lookup (Str.ofString "Symbols") = some .globalImplicit) : EvP w d f N H (.Name (Str.ofString "Symbols") pos) (.ref 154) := Ev.glob (y := .ref 154) (fun P => by kernel_rfl) (.ref _) hk (by decide)
theorem g_Store {w : World} {d : Nat} {f : FI} {N : List SV} {H : Hp} {pos : Pos} (hk : f.cs.names.lookup (Str.ofString "Store") = some .globalImplicit) : EvP w d f N H (.Name (Str.ofString "Store") pos) (.ref 380) := Ev.glob (y := .ref 380) (fun P => by kernel_rfl) (.ref _) hk (by decide)
theorem g_PairSet {w : World} {d : Nat} {f : FI} {N : List SV} {H : Hp} {pos : Pos} (hk : f.cs.names.lookup (Str.ofString "PairSet") = some .globalImplicit) : EvP w d f N H (.Name (Str.ofString "PairSet") pos) (.ref 406) := Ev.glob (y := .ref 406) (fun P => by kernel_rfl) (.ref _) hk (by decide)
theorem g_push_pairs {w : World} {d : Nat} {f : FI} {N : List SV} {H : Hp} {pos : Pos} (hk : f.cs.names.lookup (Str.ofString "push_pairs") = some .globalImplicit) : EvP w d f N H (.Name (Str.ofString "push_pairs") pos) (.ref 417) := Ev.glob (y := .ref 417) (fun P => by kernel_rfl) (.ref _) hk (by decide)
theorem g_rank {w : World} {d : Nat} {f : FI} {N : List SV} {H : Hp} {pos : Pos} (hk : f.cs.names.lookup (Str.ofString "rank") = some .globalImplicit) : EvP w d f N H (.Name (Str.ofString "rank") pos) (.ref 424) := Ev.glob (y := .ref 424) (fun P => by kernel_rfl) (.ref _) hk (by decide)
theorem g_order {w : World} {d : Nat} {f : FI} {N : List SV} {H : Hp} {pos : Pos} (hk : f.cs.names.lookup (Str.ofString "order") = some .globalImplicit) : EvP w d f N H (.Name (Str.ofString "order") pos) (.ref 431) := Ev.glob (y := .ref 431) (fun P => by kernel_rfl) (.ref _) hk (by decide)
theorem g_compare_shapes {w : World} {d : Nat} {f : FI} {N : List SV} {H : Hp} {pos : Pos} (hk : f.cs.names.lookup (Str.ofString "compare_shapes") = some .globalImplicit) : EvP w d f N H (.Name (Str.ofString "compare_shapes") pos) (.ref 438) := Ev.glob (y := .ref 438) (fun P => by kernel_rfl) (.ref _) hk (by decide)
theorem g_compare_tops {w : World} {d : Nat} {f : FI} {N : List SV} {H : Hp} {pos : Pos} (hk : f.cs.names.lookup (Str.ofString "compare_tops") = some .globalImplicit) : EvP w d f N H (.Name (Str.ofString "compare_tops") pos) (.ref 445) := Ev.glob (y := .ref 445) (fun P => by kernel_rfl) (.ref _) hk (by decide)
theorem g_compare {w : World} {d : Nat} {f : FI} {N : List SV} {H : Hp} {pos : Pos} (hk : f.cs.names.lookup (Str.ofString "compare") = some .globalImplicit) : EvP w d f N H (.Name (Str.ofString "compare") pos) (.ref 452) := Ev.glob (y := .ref 452) (fun P => by kernel_rfl) (.ref _) hk (by decide)
theorem g_merge {w : World} {d : Nat} {f : FI} {N : List SV} {H : Hp} {pos : Pos} (hk : f.cs.names.lookup (Str.ofString "merge") = some .globalImplicit) : EvP w d f N H (.Name (Str.ofString "merge") pos) (.ref 459) := Ev.glob (y := .ref 459) (fun P => by kernel_rfl) (.ref _) hk (by decide)
theorem g_law_pick {w : World} {d : Nat} {f : FI} {N : List SV} {H : Hp} {pos : Pos} (hk : f.cs.names.lookup (Str.ofString "_law_pick") = some .globalImplicit) : EvP w d f N H (.Name (Str.ofString "_law_pick") pos) (.ref 466) := Ev.glob (y := .ref 466) (fun P => by kernel_rfl) (.ref _) hk (by decide)
theorem g_law_key {w : World} {d : Nat} {f : FI} {N : List SV} {H : Hp} {pos : Pos} (hk : f.cs.names.lookup (Str.ofString "_law_key") = some .globalImplicit) : EvP w d f N H (.Name (Str.ofString "_law_key") pos) (.ref 473) := Ev.glob (y := .ref 473) (fun P => by kernel_rfl) (.ref _) hk (by decide)
theorem fn_60 : Fn 60 := ⟨fun P => by kernel_rfl⟩
theorem fn_67 : Fn 67 := ⟨fun P => by kernel_rfl⟩
theorem fn_154 : Fn 154 := ⟨fun P => by kernel_rfl⟩
theorem fn_380 : Fn 380 := ⟨fun P => by kernel_rfl⟩
theorem fn_406 : Fn 406 := ⟨fun P => by kernel_rfl⟩
theorem fn_417 : Fn 417 := ⟨fun P => by kernel_rfl⟩
theorem fn_424 : Fn 424 := ⟨fun P => by kernel_rfl⟩
theorem fn_431 : Fn 431 := ⟨fun P => by kernel_rfl⟩
theorem fn_438 : Fn 438 := ⟨fun P => by kernel_rfl⟩
theorem fn_445 : Fn 445 := ⟨fun P => by kernel_rfl⟩
theorem fn_452 : Fn 452 := ⟨fun P => by kernel_rfl⟩
theorem fn_459 : Fn 459 := ⟨fun P => by kernel_rfl⟩
theorem fn_466 : Fn 466 := ⟨fun P => by kernel_rfl⟩
theorem fn_473 : Fn 473 := ⟨fun P => by kernel_rfl⟩
theorem ca_154_texts : ClsAttr 154 (Str.ofString "texts") := ⟨fun P => by kernel_rfl, fun P => by kernel_rfl, fun P => by kernel_rfl⟩
theorem ca_154_atom_numbers : ClsAttr 154 (Str.ofString "atom_numbers") := ⟨fun P => by kernel_rfl, fun P => by kernel_rfl, fun P => by kernel_rfl⟩
theorem ca_154_functors : ClsAttr 154 (Str.ofString "functors") := ⟨fun P => by kernel_rfl, fun P => by kernel_rfl, fun P => by kernel_rfl⟩
theorem ca_154_functor_numbers : ClsAttr 154 (Str.ofString "functor_numbers") := ⟨fun P => by kernel_rfl, fun P => by kernel_rfl, fun P => by kernel_rfl⟩
theorem ca_380_symbols : ClsAttr 380 (Str.ofString "symbols") := ⟨fun P => by kernel_rfl, fun P => by kernel_rfl, fun P => by kernel_rfl⟩
theorem ca_380_max_heap : ClsAttr 380 (Str.ofString "max_heap") := ⟨fun P => by kernel_rfl, fun P => by kernel_rfl, fun P => by kernel_rfl⟩
theorem ca_380_heap : ClsAttr 380 (Str.ofString "heap") := ⟨fun P => by kernel_rfl, fun P => by kernel_rfl, fun P => by kernel_rfl⟩
theorem ca_406_span : ClsAttr 406 (Str.ofString "span") := ⟨fun P => by kernel_rfl, fun P => by kernel_rfl, fun P => by kernel_rfl⟩
theorem ca_406_met : ClsAttr 406 (Str.ofString "met") := ⟨fun P => by kernel_rfl, fun P => by kernel_rfl, fun P => by kernel_rfl⟩
theorem cm_154_atom : ClsMeth 154 (Str.ofString "atom") 88 := ⟨fun P => by kernel_rfl, fun P => by kernel_rfl, fun P => by kernel_rfl, fun P => by kernel_rfl⟩
theorem cm_154_text : ClsMeth 154 (Str.ofString "text") 95 := ⟨fun P => by kernel_rfl, fun P => by kernel_rfl, fun P => by kernel_rfl, fun P => by kernel_rfl⟩
theorem cm_154_functor : ClsMeth 154 (Str.ofString "functor") 102 := ⟨fun P => by kernel_rfl, fun P => by kernel_rfl, fun P => by kernel_rfl, fun P => by kernel_rfl⟩
theorem cm_154_func : ClsMeth 154 (Str.ofString "func") 109 := ⟨fun P => by kernel_rfl, fun P => by kernel_rfl, fun P => by kernel_rfl, fun P => by kernel_rfl⟩
theorem cm_154_arity : ClsMeth 154 (Str.ofString "arity") 123 := ⟨fun P => by kernel_rfl, fun P => by kernel_rfl, fun P => by kernel_rfl, fun P => by kernel_rfl⟩
theorem cm_380_push : ClsMeth 380 (Str.ofString "push") 201 := ⟨fun P => by kernel_rfl, fun P => by kernel_rfl, fun P => by kernel_rfl, fun P => by kernel_rfl⟩
theorem cm_380_new_var : ClsMeth 380 (Str.ofString "new_var") 208 := ⟨fun P => by kernel_rfl, fun P => by kernel_rfl, fun P => by kernel_rfl, fun P => by kernel_rfl⟩
theorem cm_380_reserve : ClsMeth 380 (Str.ofString "reserve") 215 := ⟨fun P => by kernel_rfl, fun P => by kernel_rfl, fun P => by kernel_rfl, fun P => by kernel_rfl⟩
theorem cm_380_deref : ClsMeth 380 (Str.ofString "deref") 229 := ⟨fun P => by kernel_rfl, fun P => by kernel_rfl, fun P => by kernel_rfl, fun P => by kernel_rfl⟩
theorem cm_380_globalise : ClsMeth 380 (Str.ofString "globalise") 257 := ⟨fun P => by kernel_rfl, fun P => by kernel_rfl, fun P => by kernel_rfl, fun P => by kernel_rfl⟩
theorem cm_380_is_compound : ClsMeth 380 (Str.ofString "is_compound") 285 := ⟨fun P => by kernel_rfl, fun P => by kernel_rfl, fun P => by kernel_rfl, fun P => by kernel_rfl⟩
theorem cm_380_functor_of : ClsMeth 380 (Str.ofString "functor_of") 292 := ⟨fun P => by kernel_rfl, fun P => by kernel_rfl, fun P => by kernel_rfl, fun P => by kernel_rfl⟩
theorem cm_380_width : ClsMeth 380 (Str.ofString "width") 299 := ⟨fun P => by kernel_rfl, fun P => by kernel_rfl, fun P => by kernel_rfl, fun P => by kernel_rfl⟩
theorem cm_380_base : ClsMeth 380 (Str.ofString "base") 306 := ⟨fun P => by kernel_rfl, fun P => by kernel_rfl, fun P => by kernel_rfl, fun P => by kernel_rfl⟩
theorem cm_380_new_block : ClsMeth 380 (Str.ofString "new_block") 320 := ⟨fun P => by kernel_rfl, fun P => by kernel_rfl, fun P => by kernel_rfl, fun P => by kernel_rfl⟩
theorem cm_380_new_struct : ClsMeth 380 (Str.ofString "new_struct") 341 := ⟨fun P => by kernel_rfl, fun P => by kernel_rfl, fun P => by kernel_rfl, fun P => by kernel_rfl⟩
theorem cm_406_add : ClsMeth 406 (Str.ofString "add") 403 := ⟨fun P => by kernel_rfl, fun P => by kernel_rfl, fun P => by kernel_rfl, fun P => by kernel_rfl⟩
theorem cs_406_span : ClsSet 406 (Str.ofString "span") := ⟨fun P => by kernel_rfl, fun P => by kernel_rfl, fun P => by kernel_rfl, fun P => by kernel_rfl⟩
theorem cs_406_met : ClsSet 406 (Str.ofString "met") := ⟨fun P => by kernel_rfl, fun P => by kernel_rfl, fun P => by kernel_rfl, fun P => by kernel_rfl⟩
theorem cs_154_texts : ClsSet 154 (Str.ofString "texts") := ⟨fun P => by kernel_rfl, fun P => by kernel_rfl, fun P => by kernel_rfl, fun P => by kernel_rfl⟩
theorem cs_154_atom_numbers : ClsSet 154 (Str.ofString "atom_numbers") := ⟨fun P => by kernel_rfl, fun P => by kernel_rfl, fun P => by kernel_rfl, fun P => by kernel_rfl⟩
theorem cs_154_functors : ClsSet 154 (Str.ofString "functors") := ⟨fun P => by kernel_rfl, fun P => by kernel_rfl, fun P => by kernel_rfl, fun P => by kernel_rfl⟩
theorem cs_154_functor_numbers : ClsSet 154 (Str.ofString "functor_numbers") := ⟨fun P => by kernel_rfl, fun P => by kernel_rfl, fun P => by kernel_rfl, fun P => by kernel_rfl⟩
theorem cs_380_symbols : ClsSet 380 (Str.ofString "symbols") := ⟨fun P => by kernel_rfl, fun P => by kernel_rfl, fun P => by kernel_rfl, fun P => by kernel_rfl⟩
theorem cs_380_max_heap : ClsSet 380 (Str.ofString "max_heap") := ⟨fun P => by kernel_rfl, fun P => by kernel_rfl, fun P => by kernel_rfl, fun P => by kernel_rfl⟩
theorem cs_380_heap : ClsSet 380 (Str.ofString "heap") := ⟨fun P => by kernel_rfl, fun P => by kernel_rfl, fun P => by kernel_rfl, fun P => by kernel_rfl⟩
theorem cs_380_stack : ClsSet 380 (Str.ofString "stack") := ⟨fun P => by kernel_rfl, fun P => by kernel_rfl, fun P => by kernel_rfl, fun P => by kernel_rfl⟩
theorem cs_380_trail : ClsSet 380 (Str.ofString "trail") := ⟨fun P => by kernel_rfl, fun P => by kernel_rfl, fun P => by kernel_rfl, fun P => by kernel_rfl⟩
theorem cs_380_hb : ClsSet 380 (Str.ofString "hb") := ⟨fun P => by kernel_rfl, fun P => by kernel_rfl, fun P => by kernel_rfl, fun P => by kernel_rfl⟩
theorem cs_380_bb : ClsSet 380 (Str.ofString "bb") := ⟨fun P => by kernel_rfl, fun P => by kernel_rfl, fun P => by kernel_rfl, fun P => by kernel_rfl⟩
theorem mk_406 : MkCls 406 396 := ⟨fun P => by kernel_rfl, fun P => by kernel_rfl, fun P => by kernel_rfl⟩
theorem mk_154 : MkCls 154 81 := ⟨fun P => by kernel_rfl, fun P => by kernel_rfl, fun P => by kernel_rfl⟩
theorem mk_380 : MkCls 380 194 := ⟨fun P => by kernel_rfl, fun P => by kernel_rfl, fun P => by kernel_rfl⟩
end Mine
end
section
-- Q5
open PySem PySem.W PyProof.Rows
set_option Elab.async false
set_option maxRecDepth 100000
set_option linter.unusedVariables false
namespace Mine
/-- what a value is, read deep -/
noncomputable def DatH (P : World) (H : Hp) (v : SV) (e : Dat) : Prop := ∀ ex news, HOK P ex H news → ∀ y, Den v y → DatIn news y e
noncomputable def DatHL (P : World) (H : Hp) (vs : List SV) (es : List Dat) : Prop := ∀ ex news, HOK P ex H news → ∀ ys, DenL vs ys → DatAll news ys es
theorem DatH.int {P : World} {H : Hp} (z : Int) : DatH P H (.int z) (.int z) := fun ex news _ y hd => by (first | obtain rfl := hd.ri | obtain ⟨_, rfl⟩ := hd.ii | obtain rfl := hd.ni | obtain rfl := hd.mi | cases hd); exact .int _ _
theorem DatHL.nil {P : World} {H : Hp} : DatHL P H [] [] := fun ex news _ y hd => by (first | obtain rfl := hd.ri | obtain ⟨_, rfl⟩ := hd.ii | obtain rfl := hd.ni | obtain rfl := hd.mi | cases hd); exact .nil
theorem DatHL.cons {P : World} {H : Hp} {v : SV} {e : Dat} {vs : List SV} {es : List Dat} (h : DatH P H v e) (h' : DatHL P H vs es) : DatHL P H (v :: vs) (e :: es) := fun ex news hh y hd => by
  cases hd with
  | cons h1 h2 => exact .cons (h ex news hh _ h1) (h' ex news hh _ h2)
theorem DatH.tup {P : World} {H : Hp} {a : Addr} {vs : List SV} {es : List Dat} (ha : H a = some (.tup vs)) (h : DatHL P H vs es) : DatH P H (.ref a) (.tuple es) := fun ex news hh y hd => by
  (first | obtain rfl := hd.ri | obtain ⟨_, rfl⟩ := hd.ii | obtain rfl := hd.ni | obtain rfl := hd.mi | cases hd)
  obtain ⟨ob, hm, dd⟩ := hh.get ha
  cases dd with
  | tup n dl => exact .tuple hm (h ex news hh _ dl)
theorem DatH.lst {P : World} {H : Hp} {a : Addr} {vs : List SV} {es : List Dat} (ha : H a = some (.lst vs)) (h : DatHL P H vs es) : DatH P H (.ref a) (.list es) := fun ex news hh y hd => by
  (first | obtain rfl := hd.ri | obtain ⟨_, rfl⟩ := hd.ii | obtain rfl := hd.ni | obtain rfl := hd.mi | cases hd)
  obtain ⟨ob, hm, dd⟩ := hh.get ha
  cases dd with
  | lst n dl => exact .list hm (h ex news hh _ dl)
section
variable {w : World} {f : FI} {N : List SV} {H : Hp}
theorem shaped_of {e : Dat} (h : kqdOk 9 e = true) : PySem.SeqAt.shaped (kqdP e) = true := by
  have la := kqd_lay 9 e h
  unfold PySem.SeqAt.shaped; rw [la.1, Bool.true_and]; exact decide_eq_true (Nat.le_trans la.2 (by decide))
open Classical in
theorem eqv_of {e e' : Dat} (h : kqdOk 9 e = true) (h' : kqdOk 9 e' = true) : PyData.eqv (kqdP e) (kqdP e') = decide (e = e') := by
  have q := kqd_eqv 9 e e' 9 h h'
  by_cases hq : e = e'
  · rw [decide_eq_true hq]; exact q.mpr hq
  · rw [decide_eq_false hq]; exact Bool.eq_false_iff.mpr fun x => hq (q.mp x)
theorem units_ok {d : Nat} {c : Cx} (ok : Cx.Ok w d f c) : (c.A f).units + 64 < cLine := by
  have h1 := ok.ul; have h2 := ok.db
  show c.un + 64 < 9900
  omega
open Classical in
theorem CmpR.eqD {a b : SV} {da db : Dat} (ha : DatH w H a da) (hb : DatH w H b db) (oa : kqdOk 9 da = true) (ob : kqdOk 9 db = true) : CmpR w f .Eq a b H N (decide (da = db)) := by
  intro c s Q E d x y ok hx hy at' ret
  obtain ⟨m, news, F, Nw, hN, hH⟩ := at'
  obtain ⟨as, ra⟩ := kqd_in Nw 9 (ha _ _ hH _ hx) oa
  obtain ⟨bs, rb⟩ := kqd_in Nw 9 (hb _ _ hH _ hy) ob
  exact eq_dataH ra rb (shaped_of oa) (shaped_of ob) (units_ok ok) (by rw [eqv_of oa ob]; exact ret _)
open Classical in
theorem CmpR.neD {a b : SV} {da db : Dat} (ha : DatH w H a da) (hb : DatH w H b db) (oa : kqdOk 9 da = true) (ob : kqdOk 9 db = true) : CmpR w f .NotEq a b H N (!decide (da = db)) := by
  intro c s Q E d x y ok hx hy at' ret
  obtain ⟨m, news, F, Nw, hN, hH⟩ := at'
  obtain ⟨as, ra⟩ := kqd_in Nw 9 (ha _ _ hH _ hx) oa
  obtain ⟨bs, rb⟩ := kqd_in Nw 9 (hb _ _ hH _ hy) ob
  exact ne_dataH ra rb (shaped_of oa) (shaped_of ob) (units_ok ok) (by rw [eqv_of oa ob]; exact ret _)
/-- a cell: a tuple of two ints -/
noncomputable abbrev cellO (t k : Int) : SO := .tup [.int t, .int k]
theorem datCell {P : World} {a : Addr} {t k : Int} (ha : H a = some (cellO t k)) : DatH P H (.ref a) (.tuple [.int t, .int k]) := .tup ha (.cons (.int t) (.cons (.int k) .nil))
theorem CmpR.eqC {a b : Addr} {t k t' k' : Int} (ha : H a = some (cellO t k)) (hb : H b = some (cellO t' k')) : CmpR w f .Eq (.ref a) (.ref b) H N (decide (t = t' ∧ k = k')) := by
  have h := CmpR.eqD (w := w) (f := f) (N := N) (datCell (P := w) ha) (datCell hb) (by rfl) (by rfl)
  have e : (Dat.tuple [.int t, .int k] = Dat.tuple [.int t', .int k']) = (t = t' ∧ k = k') := by simp
  by_cases hq : Dat.tuple [.int t, .int k] = Dat.tuple [.int t', .int k']
  · rw [@decide_eq_true _ (Classical.propDecidable _) hq] at h
    rw [decide_eq_true (e ▸ hq)]
    exact h
  · rw [@decide_eq_false _ (Classical.propDecidable _) hq] at h
    rw [decide_eq_false (e ▸ hq)]
    exact h
theorem cellVals {P : World} {ex news : _} {H : Hp} (hh : HOK P ex H news) {a : Addr} {t k : Int} (ha : H a = some (cellO t k)) : ∃ u1 u2 n, (a, tupO [.int t u1, .int k u2] n) ∈ news := by
  obtain ⟨ob, hm, dd⟩ := hh.get ha
  obtain ⟨_, n, rfl, dl⟩ := dd.tup_inv
  replace dl := dl.cons_inv
  obtain ⟨_, _, e_, h1, dl⟩ := dl
  cases e_
  (first | obtain rfl := h1.ri | obtain ⟨_, rfl⟩ := h1.ii | obtain rfl := h1.ni | obtain rfl := h1.mi | cases h1)
  replace dl := dl.cons_inv
  obtain ⟨_, _, e_, h2, dl⟩ := dl
  cases e_
  (first | obtain rfl := h2.ri | obtain ⟨_, rfl⟩ := h2.ii | obtain rfl := h2.ni | obtain rfl := h2.mi | cases h2); cases dl
  exact ⟨_, _, _, hm⟩
theorem CmpR.ltC {a b : Addr} {t k k' : Int} (ha : H a = some (cellO t k)) (hb : H b = some (cellO t k')) (hne : ¬ k = k') : CmpR w f .Lt (.ref a) (.ref b) H N (decide (k < k')) := by
  intro c s Q E d x y ok hx hy at' ret
  obtain ⟨m, news, F, Nw, hN, hH⟩ := at'
  (first | obtain rfl := hx.ri | obtain ⟨_, rfl⟩ := hx.ii | obtain rfl := hx.ni | obtain rfl := hx.mi | cases hx); (first | obtain rfl := hy.ri | obtain ⟨_, rfl⟩ := hy.ii | obtain rfl := hy.ni | obtain rfl := hy.mi | cases hy)
  obtain ⟨u1, u2, n, h1⟩ := cellVals hH ha
  obtain ⟨v1, v2, n2, h2⟩ := cellVals hH hb
  have := units_ok ok
  exact tup2_lt (Nw _ h1).1 (Nw _ h2).1 hne (by omega) (ret _)
theorem CmpR.gtC {a b : Addr} {t k k' : Int} (ha : H a = some (cellO t k)) (hb : H b = some (cellO t k')) (hne : ¬ k = k') : CmpR w f .Gt (.ref a) (.ref b) H N (decide (k' < k)) := by
  intro c s Q E d x y ok hx hy at' ret
  obtain ⟨m, news, F, Nw, hN, hH⟩ := at'
  (first | obtain rfl := hx.ri | obtain ⟨_, rfl⟩ := hx.ii | obtain rfl := hx.ni | obtain rfl := hx.mi | cases hx); (first | obtain rfl := hy.ri | obtain ⟨_, rfl⟩ := hy.ii | obtain rfl := hy.ni | obtain rfl := hy.mi | cases hy)
  obtain ⟨u1, u2, n, h1⟩ := cellVals hH ha
  obtain ⟨v1, v2, n2, h2⟩ := cellVals hH hb
  have := units_ok ok
  exact tup2_gt (Nw _ h1).1 (Nw _ h2).1 hne (by omega) (ret _)
end
/-- the store's attributes, the book's -/
noncomputable abbrev stO (bk hp sk tr : Addr) : SO := .attrs [(Str.ofString "symbols", .ref bk), (Str.ofString "max_heap", .int 100000), (Str.ofString "heap", .ref hp), (Str.ofString "stack", .ref sk), (Str.ofString "trail", .ref tr), (Str.ofString "hb", .int 0), (Str.ofString "bb", .int 0)]
noncomputable abbrev bkO (tx an fn nn : Addr) : SO := .attrs [(Str.ofString "texts", .ref tx), (Str.ofString "atom_numbers", .ref an), (Str.ofString "functors", .ref fn), (Str.ofString "functor_numbers", .ref nn)]
/-- a store with its book, as far as they are never turned -/
structure Base (H : Hp) (st sx hp sk tr bk bx tx an fn nn : Addr) : Prop where
  st : H st = some (.inst 380 sx)
  sx : H sx = some (stO bk hp sk tr)
  bk : H bk = some (.inst 154 bx)
  bx : H bx = some (bkO tx an fn nn)
/-! ledgers that only grow -/
noncomputable def Hle (H H' : Hp) : Prop := ∀ a o, H a = some o → H' a = some o
theorem Hle.rfl {H : Hp} : Hle H H := fun _ _ h => h
theorem Hle.trans {H H' H'' : Hp} (h : Hle H H') (h' : Hle H' H'') : Hle H H'' := fun a o e => h' a o (h a o e)
theorem Hle.new {H H' : Hp} {a : Addr} {o : SO} (h : Hle H H') (hn : H' a = none) : Hle H (H'.set a o) := fun b o' e => Hp.set_new hn (h b o' e)
/-- an object that the smaller heap does not know may turn -/
theorem Hle.upd {H H' : Hp} {a : Addr} {o : SO} (h : Hle H H') (hn : H a = none) : Hle H (H'.set a o) := fun b o' e => Hp.set_ne (fun q => by rw [q, hn] at e; cases e) (h b o' e)
theorem Base.le {H H' : Hp} {st sx hp sk tr bk bx tx an fn nn : Addr} (b : Base H st sx hp sk tr bk bx tx an fn nn) (h : Hle H H') : Base H' st sx hp sk tr bk bx tx an fn nn := ⟨h _ _ b.st, h _ _ b.sx, h _ _ b.bk, h _ _ b.bx⟩
/-- the objects that a call made for itself may be forgotten -/
theorem Sp.forget {w : World} {d : Nat} {fa : Addr} {args : List SV} {H : Hp} {v : SV} (h : Sp w d fa args H (fun v' H' => v' = v ∧ Hle H H')) : SpP w d fa args H v :=
  fun ys hd c f m news s R B X T hk dl ul F N hh ret => h ys hd c f m news s R B X T hk dl ul F N hh fun v' y H' news' h' tk' hK hDn F' N' hH' => ret v' y H news' h' tk' ⟨hK.1, rfl⟩ hDn F' N' (hH'.less hK.2)
noncomputable def cmpZS (x y : Str) : Int := if x.cps.toList < y.cps.toList then -1 else if y.cps.toList < x.cps.toList then 1 else 0
noncomputable def rankZ (t : Int) : Int := if t = 5 then 1 else if t = 4 then 2 else if t = 2 ∨ t = 3 then 3 else 0
end Mine
end
section
-- Q6
open PySem PySem.W PyProof.Rows
set_option Elab.async false
set_option maxRecDepth 100000
set_option linter.unusedVariables false
namespace Mine
theorem Hp.ne_of {H : Hp} {a b : Addr} {r o : SO} (hb : H b = some r) (ha : H a = some o) (h : r ≠ o) : b ≠ a := fun q => by rw [q, ha] at hb; (first | obtain rfl := hb.ri | obtain ⟨_, rfl⟩ := hb.ii | obtain rfl := hb.ni | obtain rfl := hb.mi | cases hb); exact h rfl
theorem Hp.ne_none {H : Hp} {a b : Addr} {r : SO} (ha : H a = none) (hb : H b = some r) : a ≠ b := fun q => by rw [q, hb] at ha; cases ha
theorem Hp.none_ne {H : Hp} {a b : Addr} {r : SO} (ha : H a = none) (hb : H b = some r) : b ≠ a := fun q => by rw [← q, hb] at ha; cases ha
theorem Hle.none {H H' : Hp} {a : Addr} (h : Hle H H') (e : H' a = Option.none) : H a = Option.none := by
  cases q : H a with
  | none => rfl
  | some o => rw [h _ _ q] at e; cases e
noncomputable def Hp.del (H : Hp) (a : Addr) : Hp := fun b => if b = a then none else H b
theorem Hp.del_eq {H : Hp} {a : Addr} : H.del a a = none := if_pos rfl
theorem Hp.del_ne {H : Hp} {a b : Addr} {r : Option SO} (h : b ≠ a) (e : H b = r) : H.del a b = r := (if_neg h).trans e
theorem Hle.del {H : Hp} {a : Addr} : Hle (H.del a) H := fun b o e => by
  unfold Hp.del at e
  by_cases h : b = a
  · rw [if_pos h] at e; cases e
  · rw [if_neg h] at e; exact e
theorem Hle.to_del {H0 H : Hp} {a : Addr} (h : Hle H0 H) (hn : H0 a = Option.none) : Hle H0 (H.del a) := fun b o e => Hp.del_ne (Hp.none_ne hn e) (h b o e)
theorem Hp.del_kind {H : Hp} {a b : Addr} {vs : List SV} {r : SO} (ha : H a = some (.lst vs)) (hb : H b = some r) (hk : r ≠ .lst vs) : H.del a b = some r := Hp.del_ne (Hp.ne_of hb ha hk) hb
theorem Base.upd {H : Hp} {st sx hp sk tr bk bx tx an fn nn a : Addr} {o : SO} (b : Base H st sx hp sk tr bk bx tx an fn nn) (h1 : a ≠ st) (h2 : a ≠ sx) (h3 : a ≠ bk) (h4 : a ≠ bx) : Base (H.set a o) st sx hp sk tr bk bx tx an fn nn :=
  ⟨Hp.set_ne h1.symm b.st, Hp.set_ne h2.symm b.sx, Hp.set_ne h3.symm b.bk, Hp.set_ne h4.symm b.bx⟩
theorem Base.lst {H : Hp} {st sx hp sk tr bk bx tx an fn nn a : Addr} {o : SO} {vs : List SV} (b : Base H st sx hp sk tr bk bx tx an fn nn) (ha : H a = some (.lst vs)) : Base (H.set a o) st sx hp sk tr bk bx tx an fn nn :=
  b.upd (Hp.ne_of ha b.st (fun q => by cases q)) (Hp.ne_of ha b.sx (fun q => by cases q)) (Hp.ne_of ha b.bk (fun q => by cases q)) (Hp.ne_of ha b.bx (fun q => by cases q))
theorem Base.fresh {H : Hp} {st sx hp sk tr bk bx tx an fn nn a : Addr} {o : SO} (b : Base H st sx hp sk tr bk bx tx an fn nn) (ha : H a = none) : Base (H.set a o) st sx hp sk tr bk bx tx an fn nn :=
  b.upd (Hp.ne_none ha b.st) (Hp.ne_none ha b.sx) (Hp.ne_none ha b.bk) (Hp.ne_none ha b.bx)
section
variable {w : World} {d : Nat} {f : FI} {N : List SV} {H : Hp}
/-- xs.pop() -/
theorem Ev.pop {o : PySem.Expr} {a : Addr} {vs : List SV} {v : SV} {apos pos : Pos} (ho : EvP w d f N H o (.ref a)) (hi : H a = some (.lst (vs ++ [v]))) (hz : vs.length ≤ 100000)
    (hm : ∀ env, ∃ pl, eval (.Call (.Attribute o (Str.ofString "pop") apos) [] [] pos) env = (do
      let ov ← eval o env
      standAt apos.atName
      let (g, first) ← holding [ov] (getMethod ov (Str.ofString "pop") pl)
      callWith pos g first (backTo pos (starEach [] env)) []) := by intros; with_unfolding_all exact ⟨_, rfl⟩) :
    Ev w d f N H (.Call (.Attribute o (Str.ofString "pop") apos) [] [] pos) (fun v' H' => v' = v ∧ H' = H.set a (.lst vs)) := by
  intro c s Q E ok at' ret
  obtain ⟨pl, hm⟩ := hm (c.env f)
  refine MethodCall_ (ho c s _ E ok at' ?_) hm
  intro v1 y1 H1 h1' tk1 hK1 hD1 at2
  obtain ⟨rfl, rfl⟩ := hK1
  (first | obtain rfl := hD1.ri | obtain ⟨_, rfl⟩ := hD1.ii | obtain rfl := hD1.ni | obtain rfl := hD1.mi | cases hD1)
  obtain ⟨m, news, F, Nw, hN, hH⟩ := at2
  obtain ⟨oa, ma, da⟩ := hH.get hi
  obtain ⟨xs, n, rfl, dL⟩ := da.lst_inv
  have hl : ∃ ys y, xs = ys ++ [y] ∧ DenL vs ys ∧ Den v y := by
    have h1 := dL.take vs.length
    have h2 := dL.drop vs.length
    rw [List.take_left] at h1
    rw [List.drop_left] at h2
    cases hq : List.drop vs.length xs with
    | nil => rw [hq] at h2; (first | obtain rfl := h2.ri | obtain ⟨_, rfl⟩ := h2.ii | obtain rfl := h2.ni | obtain rfl := h2.mi | cases h2)
    | cons y r =>
      rw [hq] at h2
      replace h2 := h2.cons_inv
      obtain ⟨_, _, e_, h3, h4⟩ := h2
      cases e_
      (first | obtain rfl := h4.ri | obtain ⟨_, rfl⟩ := h4.ii | obtain rfl := h4.ni | obtain rfl := h4.mi | cases h4)
      exact ⟨_, y, by rw [← hq, List.take_append_drop], h1, h3⟩
  obtain ⟨ys, y, rfl, hys, hy⟩ := hl
  refine kl_method (s := { s with heap := h1', toks := tk1 }) Nw ma PySem.F.slot_list_pop PySem.F.type_list_pop ?_
  refine callWith_method0 ?_
  refine kl_pop (s := { s with heap := h1', toks := tk1 }) F (newsOff Nw ma) (e := kpa_last y ys) (.head offL_ne) ?_ (fun h' F' N' => ?_)
  · have := hys.length
    simp only [List.length_append, List.length_cons, List.length_nil, sizeLine]
    omega
  · exact ret v y _ h' tk1 ⟨rfl, rfl⟩ hy ⟨m, _, F', N', hN, hH.put hi (.lst _ hys)⟩
theorem Ev.listK {es : List PySem.Expr} {KA : List SV → Hp → Prop} {K : SV → Hp → Prop} {pos : Pos} (he : EvL w d f N H es KA) (h : ∀ vs H1, KA vs H1 → vs.length ≤ 1000 ∧ ∀ a, H1 a = none → K (.ref a) (H1.set a (.lst vs))) : Ev w d f N H (.List es pos) K := by
  intro c s Q E ok at' ret
  refine List_ (he pos c s _ E ok at' ?_)
  intro vs1 ys H1 h1 tk1 hK hD at1
  obtain ⟨hz, hk⟩ := h vs1 H1 hK
  obtain ⟨m, news, F, Nw, hN, hH⟩ := at1
  refine newList_K (s := { s with heap := h1, toks := tk1 }) F Nw (fun D h' F' N' hl => ?_) (by rw [hD.length]; simp only [sizeLine]; omega)
  exact ret (.ref D) _ _ h' tk1 (hk D (hH.fresh hl)) (.ref D) ⟨m, _, F', N', hN, hH.new hl (.lst 0 hD)⟩
theorem Ev.tupK {es : List PySem.Expr} {KA : List SV → Hp → Prop} {K : SV → Hp → Prop} {k : Nat} {pos : Pos} (he : EvL w d f N H es KA) (h : ∀ vs H1, KA vs H1 → vs.length ≤ 1000 ∧ ∀ a, H1 a = none → K (.ref a) (H1.set a (.tup vs))) : Ev w d f N H (.Tuple es k pos) K := by
  intro c s Q E ok at' ret
  refine Tuple_ (he pos c s _ E ok at' ?_)
  intro vs1 ys H1 h1 tk1 hK hD at1
  obtain ⟨hz, hk⟩ := h vs1 H1 hK
  obtain ⟨m, news, F, Nw, hN, hH⟩ := at1
  refine kup_newTuple (s := { s with heap := h1, toks := tk1 }) F Nw (fun D h' F' N' hl => ?_) (by rw [hD.length]; simp only [sizeLine]; omega)
  exact ret (.ref D) _ _ h' tk1 (hk D (hH.fresh hl)) (.ref D) ⟨m, _, F', N', hN, hH.new hl (.tup 0 hD)⟩
theorem EvB.mono {e : PySem.Expr} {K K' : Bool → Hp → Prop} (h : EvB w d f N H e K) (k : ∀ b H', K b H' → K' b H') : EvB w d f N H e K' :=
  fun c s Q E ok at' ret => h c s Q E ok at' fun b H' h' tk' hK => ret b H' h' tk' (k _ _ hK)
theorem EvB.pure {e : PySem.Expr} {b : Bool} {K : Bool → Hp → Prop} (h : EvBP w d f N H e b) (k : K b H) : EvB w d f N H e K := h.mono fun b' H' hK => by obtain ⟨rfl, rfl⟩ := hK; exact k
theorem EvB.valK {e : PySem.Expr} {K : Bool → Hp → Prop} (he : Ev w d f N H e (fun v H' => ∃ b, v = .bool b ∧ K b H')) (hm : ∀ env whole, isTrue e env whole = (do let v ← whole; standAt e.pos; holding [v] (truthy v)) := by intros; with_unfolding_all exact rfl) : EvB w d f N H e K := by
  intro c s Q E ok at' ret
  refine isTrue_plain (he c s _ E ok at' ?_) (hm _ _)
  intro v1 y1 H1 h1 tk1 hK hD1 at1
  obtain ⟨b, rfl, hK⟩ := hK
  (first | obtain rfl := hD1.ri | obtain ⟨_, rfl⟩ := hD1.ii | obtain rfl := hD1.ni | obtain rfl := hD1.mi | cases hD1)
  exact wpAny_truthy_bool (ret _ H1 h1 tk1 hK at1)
theorem EvB.andK {l r : PySem.Expr} {a : Bool} {K : Bool → Hp → Prop} {pos : Pos} (hl : EvBP w d f N H l a) (hf : a = false → K false H) (hr : a = true → EvB w d f N H r K) : EvB w d f N H (.BoolOp .And [l, r] pos) K := by
  intro c s Q E ok at' ret
  refine isTrue_and (hl c s _ E ok at' ?_)
  intro v1 H1 h1 tk1 hK at1
  obtain ⟨rfl, rfl⟩ := hK
  cases v1 with
  | false => exact ret _ H1 h1 tk1 (hf rfl) at1
  | true =>
    rw [if_pos rfl]
    refine isTrue_and (hr rfl c _ _ E ok at1 ?_)
    intro v2 H2 h2 tk2 hK at2
    cases v2 with
    | false => exact ret _ H2 h2 tk2 hK at2
    | true => exact isTrue_and_nil (ret _ H2 h2 tk2 hK at2)
/-- a, b = e, e a tuple of two -/
theorem Ex.unpack2 {K : Fl → List SV → Hp → Prop} {x y : Str} {xp yp tp pos : Pos} {k : Nat} {e : PySem.Expr} {rest : List Stmt} {K1 : SV → Hp → Prop} {i j : Nat} (he : Ev w d f N H e K1) (hx' : VarAt f.vars i x) (hy' : VarAt f.vars j y)
    (h : ∀ v H1, K1 v H1 → ∃ t a b, v = .ref t ∧ H1 t = some (.tup [a, b]) ∧ Ex w d f ((N.set i a).set j b) H1 rest K)
    (hm : ∀ env, swapsWithSole [.Tuple [.Name x xp, .Name y yp] k tp] e pos.line env = pure false := by intros; with_unfolding_all exact rfl)
    (hw : ∀ env, swappedStores [.Tuple [.Name x xp, .Name y yp] k tp] e env = pure none := by intros; with_unfolding_all exact rfl) : Ex w d f N H (.Assign [.Tuple [.Name x xp, .Name y yp] k tp] e pos :: rest) K := by
  have hx := hx'.at'
  have hy := hy'.at'
  refine Ex.cons ?_
  intro c s Q E ok pe at' ret
  refine Assign_Tuple (he c s _ E ok at' ?_) (hm _) (hw _)
  intro v z H1 h1 tk1 hK hD at1
  obtain ⟨t, a, b, rfl, ht, hr⟩ := h v H1 hK
  (first | obtain rfl := hD.ri | obtain ⟨_, rfl⟩ := hD.ii | obtain rfl := hD.ni | obtain rfl := hD.mi | cases hD)
  obtain ⟨m, news, F, Nw, hN, hH⟩ := at1
  obtain ⟨ot, mt, dt⟩ := hH.get ht
  obtain ⟨_, n, rfl, dL⟩ := dt.tup_inv
  replace dL := dL.cons_inv
  obtain ⟨_, _, e_, d1, dL⟩ := dL
  cases e_
  replace dL := dL.cons_inv
  obtain ⟨_, _, e_, d2, dL⟩ := dL
  cases e_
  cases dL
  refine unpackN_ (s := { s with heap := h1, toks := tk1 }) F Nw ⟨_, (Nw _ mt).1, rfl, _, rfl⟩ rfl rfl rfl (fun h' F' N' => ?_)
  refine assignInOrder_cons (wpAny_assign_Name (storeX_L F' N' (fun h2 F2 N2 => ?_) ok.g.hk (ok.g.loc x (List.mem_of_getElem? hx)).1))
  refine assignInOrder_cons (wpAny_assign_Name (storeX_L F2 N2 (fun h3 F3 N3 => ?_) ok.g.hk (ok.g.loc y (List.mem_of_getElem? hy)).1))
  refine assignInOrder_nil ?_
  exact ret .next .next _ H1 h3 _ hr .next ⟨_, news, F3, N3, (hN.set ok.g.nd hx d1).set ok.g.nd hy d2, hH⟩
/-! making instances -/
theorem Ev.makeK {d' : Nat} {fe e : PySem.Expr} {es : List PySem.Expr} {C fI : Addr} {KA : List SV → Hp → Prop} {K : SV → Hp → Prop} {pos : Pos} (hf : EvP w d f N H fe (.ref C)) (hk : Fn C) (hc : MkCls C fI) (ha : EvL w d f N H (e :: es) KA)
    (S : ∀ vs H1, KA vs H1 → ∀ x dx, H1 dx = none → H1 x = none → dx ≠ x → Sp w d' fI (.ref x :: vs) ((H1.set dx (.attrs [])).set x (.inst C dx)) (fun v H2 => v = .none ∧ K (.ref x) H2)) (hd : d + 4 ≤ d')
    (hm : ∀ env, eval (.Call fe (e :: es) [] pos) env = (do callWith pos (← eval fe env) [] (backTo pos (starEach (e :: es) env)) (backToKw pos (keywordEach [] env))) := by intros; with_unfolding_all exact rfl)
    (h1 : ∀ env, starEach (e :: es) env = (false, eval e env) :: starEach es env := by intros; exact starEach_plain rfl) (h2 : ∀ env, (backTo pos (starEach es env)).any (·.1) = false := by intros; with_unfolding_all exact rfl) : Ev w d f N H (.Call fe (e :: es) [] pos) K := by
  intro c s Q E ok at' ret
  refine Call_ (hf c s _ E ok at' ?_) (hm _)
  intro v1 y1 H1 h1' tk1 hK hD1 at1
  obtain ⟨rfl, rfl⟩ := hK
  (first | obtain rfl := hD1.ri | obtain ⟨_, rfl⟩ := hD1.ii | obtain rfl := hD1.ni | obtain rfl := hD1.mi | cases hD1)
  refine callWith_K (h₀ := c.h₀) ok.X (hk.kp _) (ha pos c _ _ E ok at1 ?_) (h1 _) (h2 _)
  intro vs ys H2 h2' tk2 hK2 hD at2
  refine ⟨at2.kin ok, ?_⟩
  obtain ⟨m, news, F, Nw, hN, hH⟩ := at2
  refine call_cls (s := { s with heap := h2', toks := tk2 }) F ok.X Nw (hc.mi _) (hc.fi _) (hc.fn _) (fun x dx h' F' N' hl hlx => ?_)
  have n1 : H2 dx = none := hH.fresh hl
  have n2 : H2 x = none := hH.fresh fun p hp => Nat.lt_trans (hl p hp) hlx
  have hH1 : HOK w c.ex (H2.set dx (.attrs [])) ((dx, dictOf [] 0) :: news) := hH.new hl (.attrs 0 .nil)
  have hH2 : HOK w c.ex ((H2.set dx (.attrs [])).set x (.inst C dx)) ((x, instObj C dx) :: (dx, dictOf [] 0) :: news) := hH1.new (fun p hp => by
    rcases List.mem_cons.mp hp with rfl | hp
    · exact hlx
    · exact Nat.lt_trans (hl p hp) hlx) .inst
  have S' := S vs H2 hK2 x dx n1 n2 (Nat.ne_of_lt hlx) (.ref x :: ys) (.cons (.ref x) hD) { c with dp := c.dp + (Code.builtin "type.__call__" ⟨.ref C :: ys, []⟩).weight, un := c.un + (Code.builtin "type.__call__" ⟨.ref C :: ys, []⟩).cUnits } f m _ { s with heap := h', toks := tk2 }
    (InitBack x fun r s' => match r with
      | .ok (.ret v) => Q v s'
      | .ok _ => False
      | .error e => E e s') ok.B ok.X ok.T ok.g.hk (by have := ok.dl; show c.dp + _ ≤ d' + 400; exact Nat.le_trans (Nat.add_le_add this (Nat.le_of_ble_eq_true rfl : _ ≤ 4)) (by omega)) (by have := ok.ul; show c.un + _ ≤ 10 * d'; exact Nat.le_trans (Nat.add_le_add this (Nat.le_of_ble_eq_true rfl : _ ≤ 4)) (by omega)) F' N' hH2
    (fun v y H3 news' h3 tk3 hK3 hDn F3 N3 hH3 => by
      obtain ⟨rfl, hK3⟩ := hK3
      (first | obtain rfl := hDn.ri | obtain ⟨_, rfl⟩ := hDn.ii | obtain rfl := hDn.ni | obtain rfl := hDn.mi | cases hDn)
      exact ⟨rfl, ret (.ref x) _ H3 h3 tk3 hK3 (.ref x) ⟨m, news', F3, N3, hN, hH3⟩⟩)
  exact S'
theorem DenE.putNew {P : World} {es : List (Str × SV)} {ds : List DictEntry} (h : DenE P es ds) {x : Str} {v : SV} {y : Value} {t : Tok} (e : es.lookup x = none) (hd : Den v y) :
    DenE P (es ++ [(x, v)]) (putL x (PyData.keyHash P.params x) (.str x t) y ds) := by
  induction h with
  | nil => exact .cons hd .nil
  | cons d0 h ih =>
    rename_i y0 v0 val t0 es' ds'
    by_cases hxy : x = y0
    · subst hxy
      rw [List.lookup_cons, beq_self_eq_true] at e
      cases e
    · have hf : (x == y0) = false := beq_eq_false_iff_ne.mpr hxy
      rw [List.lookup_cons, hf] at e
      have hne : Value.isStr (.str y0 t0) x = false := by simp [Value.isStr]; intro q; exact hxy q.symm
      have ep : putL x (PyData.keyHash P.params x) (.str x t) y (⟨PyData.keyHash P.params y0, .str y0 t0, val⟩ :: ds') = ⟨PyData.keyHash P.params y0, .str y0 t0, val⟩ :: putL x (PyData.keyHash P.params x) (.str x t) y ds' := by
        rw [putL]
        simp [hne]
      rw [ep]
      exact .cons d0 (ih e)
theorem DenE.length {P : World} {es : List (Str × SV)} {ds : List DictEntry} (h : DenE P es ds) : ds.length = es.length := by
  induction h with
  | nil => rfl
  | cons _ _ ih => simp only [List.length_cons, ih]
/-- o.x = e, a new attribute -/
theorem Ex.setattr {K : Fl → List SV → Hp → Prop} {o e : PySem.Expr} {x : Str} {ap pos : Pos} {rest : List Stmt} {K1 : SV → Hp → Prop} {a C dx : Addr} (hc : ClsSet C x) (he : Ev w d f N H e K1)
    (h : ∀ v H1, K1 v H1 → ∃ es, EvP w d f N H1 o (.ref a) ∧ H1 a = some (.inst C dx) ∧ H1 dx = some (.attrs es) ∧ es.lookup x = none ∧ es.length ≤ 100 ∧ Ex w d f N (H1.set dx (.attrs (es ++ [(x, v)]))) rest K)
    (hm : ∀ env, swapsWith e (some (.Attribute o x ap)) pos.line env = pure false := by intros; with_unfolding_all exact rfl) : Ex w d f N H (.Assign [.Attribute o x ap] e pos :: rest) K := by
  refine Ex.cons ?_
  intro c s Q E ok pe at' ret
  refine plainObj_wpAny_Assign_Attribute (he c s _ E ok at' ?_) (hm _)
  intro v y H1 h1 tk1 hK hD at1
  obtain ⟨es, ho, ha, hdx, hx, hz, hr⟩ := h v H1 hK
  refine ho c { s with heap := h1, toks := tk1 } _ E ok at1 ?_
  intro v2 y2 H2 h2 tk2 hK2 hD2 at2
  obtain ⟨rfl, rfl⟩ := hK2
  (first | obtain rfl := hD2.ri | obtain ⟨_, rfl⟩ := hD2.ii | obtain rfl := hD2.ni | obtain rfl := hD2.mi | cases hD2)
  obtain ⟨m, news, F, Nw, hN, hH⟩ := at2
  obtain ⟨oa, ma, da⟩ := hH.get ha
  obtain ⟨od, md, dd⟩ := hH.get hdx
  (first | obtain rfl := da.ri | obtain ⟨_, rfl⟩ := da.ii | obtain rfl := da.ni | obtain rfl := da.mi | cases da)
  obtain ⟨_, n, rfl, dE⟩ := dd.attrs_inv
  have hln := dE.length
  have dE' := dE.putNew (t := tk2 + 1) hx hD
  have hl' := dE'.length
  refine set_dict (s := { s with heap := h2, toks := tk2 }) (w := w) F ok.X (newsOff Nw md) (InstAt.of_news Nw ma md) rfl (hc.hs _) (hc.hp _) (hc.ht _) (hc.hh _) (by rw [dE.miss hx]; rfl) rfl (.head offL_ne) (by rw [hl', List.length_append]; simp; omega) (fun h' F' N' => ?_)
  exact ret .next .next N _ h' _ hr .next ⟨m, _, F', N', hN, hH.put hdx (.attrs _ dE')⟩
/-! sets of ints -/
theorem BName.set : BName (Str.ofString "set") (.type "set") := ⟨fun P => by rfl, PyProof.Rows.boot_set, by decide, by decide⟩
theorem Ev.newset {np pos : Pos} (hk : f.cs.names.lookup (Str.ofString "set") = some .globalImplicit)
    (hm : ∀ env, eval (.Call (.Name (Str.ofString "set") np) [] [] pos) env = (do callWith pos (← eval (.Name (Str.ofString "set") np) env) [] (backTo pos (starEach [] env)) (backToKw pos (keywordEach [] env))) := by intros; with_unfolding_all exact rfl) :
    Ev w d f N H (.Call (.Name (Str.ofString "set") np) [] [] pos) (fun v H' => ∃ a, v = .ref a ∧ H a = none ∧ H' = H.set a (.iset (fun _ => false) 0)) := by
  intro c s Q E ok at' ret
  refine Call_ (Ev.bname BName.set.e BName.set.hv BName.set.hn hk BName.set.hb c s _ E ok at' ?_) (hm _)
  refine PyProof.Rows.callWith_type0 ?_
  obtain ⟨m, news, F, Nw, hN, hH⟩ := at'
  refine kse_new F Nw (fun D h' led F' N' hl hs _ => ?_)
  exact ret (.ref D) _ _ h' s.toks ⟨D, rfl, hH.fresh hl, rfl⟩ (.ref D) ⟨m, _, F', N', hN, hH.new hl (.iset hs)⟩
theorem CmpR.inS {b : Addr} {z : Int} {S : Int → Bool} {n : Nat} (hb : H b = some (.iset S n)) (hn : n < scanBound) : CmpR w f .In (.int z) (.ref b) H N (S z) := by
  intro c s Q E d x y ok hx hy at' ret
  obtain ⟨m, news, F, Nw, hN, hH⟩ := at'
  (first | obtain rfl := hx.ri | obtain ⟨_, rfl⟩ := hx.ii | obtain rfl := hx.ni | obtain rfl := hx.mi | cases hx); (first | obtain rfl := hy.ri | obtain ⟨_, rfl⟩ := hy.ii | obtain rfl := hy.ni | obtain rfl := hy.mi | cases hy)
  obtain ⟨ob, mb, db⟩ := hH.get hb
  cases db with
  | iset hs => exact kse_in (knd := PySem.intKind PW w) (newsOff Nw mb) (.head offL_ne) hs hn (intKind_is _ _ _ _) rfl (ret _)
theorem Ev.setadd {o e : PySem.Expr} {b : Addr} {z : Int} {S : Int → Bool} {n : Nat} {apos pos : Pos} (ho : EvP w d f N H o (.ref b)) (hb : H b = some (.iset S n)) (hn : n + 1 < scanBound) (he : EvP w d f N H e (.int z))
    (hm : ∀ env, ∃ pl, eval (.Call (.Attribute o (Str.ofString "add") apos) [e] [] pos) env = (do
      let ov ← eval o env
      standAt apos.atName
      let (g, first) ← holding [ov] (getMethod ov (Str.ofString "add") pl)
      callWith pos g first (backTo pos (starEach [e] env)) []) := by intros; with_unfolding_all exact ⟨_, rfl⟩)
    (h1 : ∀ env, starEach [e] env = (false, eval e env) :: starEach [] env := by intros; exact starEach_plain rfl) :
    Ev w d f N H (.Call (.Attribute o (Str.ofString "add") apos) [e] [] pos) (fun v H' => v = .none ∧ ∃ S' n', H' = H.set b (.iset S' n')) := by
  intro c s Q E ok at' ret
  obtain ⟨pl, hm⟩ := hm (c.env f)
  refine MethodCall_ (ho c s _ E ok at' ?_) hm
  intro v1 y1 H1 h1' tk1 hK1 hD1 at2
  obtain ⟨rfl, rfl⟩ := hK1
  (first | obtain rfl := hD1.ri | obtain ⟨_, rfl⟩ := hD1.ii | obtain rfl := hD1.ni | obtain rfl := hD1.mi | cases hD1)
  have at3 := at2
  obtain ⟨m, news, F, Nw, hN, hH⟩ := at2
  obtain ⟨ob, mb, db⟩ := hH.get hb
  have hs := db.iset_inv
  refine kse_method (knd := PySem.intKind PW w) (s := { s with heap := h1', toks := tk1 }) (newsOff Nw mb) (.head offL_ne) hs (Nat.lt_of_succ_lt hn) ?_
  refine callWith_method1 (EvL.cons he .nil h1 pos c _ _ E ok at3 ?_) (h1 _) rfl
  intro vs ys H2 h2' tk2 hK2 hD at4
  obtain ⟨rfl, rfl⟩ := hK2
  replace hD := hD.cons_inv
  obtain ⟨_, _, e_, hv, hnil⟩ := hD
  cases e_
  (first | obtain rfl := hnil.ri | obtain ⟨_, rfl⟩ := hnil.ii | obtain rfl := hnil.ni | obtain rfl := hnil.mi | cases hnil); (first | obtain rfl := hv.ri | obtain ⟨_, rfl⟩ := hv.ii | obtain rfl := hv.ni | obtain rfl := hv.mi | cases hv)
  obtain ⟨m2, news2, F2, Nw2, hN2, hH2⟩ := at4
  obtain ⟨ob2, mb2, db2⟩ := hH2.get hb
  have hs2 := db2.iset_inv
  refine kse_add (knd := PySem.intKind PW w) (s := { s with heap := h2', toks := tk2 }) F2 (newsOff Nw2 mb2) (.head offL_ne) hs2 hn (intKind_is _ _ _ _) rfl (fun h' so' F' N' hs' => ?_)
  exact ret _ _ _ h' _ ⟨rfl, _, _, rfl⟩ .none ⟨m2, _, F', N', hN2, hH2.put hb (.iset hs')⟩
/-! for over a range -/
/-- an expression that makes a range -/
noncomputable def RangeE (w : World) (d : Nat) (f : FI) (N : List SV) (H : Hp) (it : PySem.Expr) (a b k : Int) : Prop :=
  ∀ (c : Cx) (s : Shared) (Q E : Value → Shared → Prop), Cx.Ok w d f c → At w f c N H s.heap →
    (∀ r h' tk' t u v, IsRange h' r a b k t u v → At w f c N H h' → Q (.ref r) { s with heap := h', toks := tk' }) → wpAny (model PW w) (c.A f) (eval it (c.env f)) Q E s
theorem BName.range : BName (Str.ofString "range") (.type "range") := ⟨fun P => by rfl, boot_range, by decide, by decide⟩
theorem RangeE.one {e : PySem.Expr} {b : Int} {np pos : Pos} (hk : f.cs.names.lookup (Str.ofString "range") = some .globalImplicit) (he : EvP w d f N H e (.int b))
    (hm : ∀ env, eval (.Call (.Name (Str.ofString "range") np) [e] [] pos) env = (do callWith pos (← eval (.Name (Str.ofString "range") np) env) [] (backTo pos (starEach [e] env)) (backToKw pos (keywordEach [] env))) := by intros; with_unfolding_all exact rfl)
    (h1 : ∀ env, starEach [e] env = (false, eval e env) :: starEach [] env := by intros; exact starEach_plain rfl) : RangeE w d f N H (.Call (.Name (Str.ofString "range") np) [e] [] pos) 0 b 1 := by
  intro c s Q E ok at' ret
  refine Call_ (Ev.bname BName.range.e BName.range.hv BName.range.hn hk BName.range.hb c s _ E ok at' ?_) (hm _)
  refine PyProof.Rows.callWith_type1 (EvL.cons he .nil h1 pos c _ _ E ok at' ?_) (h1 _) rfl
  intro vs ys H2 h2' tk2 hK2 hD at2
  obtain ⟨rfl, rfl⟩ := hK2
  replace hD := hD.cons_inv
  obtain ⟨_, _, e_, hv, hn⟩ := hD
  cases e_
  (first | obtain rfl := hv.ri | obtain ⟨_, rfl⟩ := hv.ii | obtain rfl := hv.ni | obtain rfl := hv.mi | cases hv); (first | obtain rfl := hn.ri | obtain ⟨_, rfl⟩ := hn.ii | obtain rfl := hn.ni | obtain rfl := hn.mi | cases hn)
  obtain ⟨m, news, F, Nw, hN, hH⟩ := at2
  exact range1_rows (s := { s with heap := h2', toks := tk2 }) F Nw (fun h' tk t u v hR F' N' _ => ret _ h' tk t u v hR ⟨m, news, F', N', hN, hH⟩)
theorem RangeE.three {e1 e2 e3 : PySem.Expr} {a b k : Int} {np pos : Pos} (hk : f.cs.names.lookup (Str.ofString "range") = some .globalImplicit) (he1 : EvP w d f N H e1 (.int a)) (he2 : EvP w d f N H e2 (.int b)) (he3 : EvP w d f N H e3 (.int k)) (hk0 : k ≠ 0)
    (hp : Builtin.divisionGoesByPylong (b - a) k = false)
    (hm : ∀ env, eval (.Call (.Name (Str.ofString "range") np) [e1, e2, e3] [] pos) env = (do callWith pos (← eval (.Name (Str.ofString "range") np) env) [] (backTo pos (starEach [e1, e2, e3] env)) (backToKw pos (keywordEach [] env))) := by intros; with_unfolding_all exact rfl)
    (h1 : ∀ env, starEach [e1, e2, e3] env = (false, eval e1 env) :: starEach [e2, e3] env := by intros; exact starEach_plain rfl)
    (h2 : ∀ env, starEach [e2, e3] env = (false, eval e2 env) :: starEach [e3] env := by intros; exact starEach_plain rfl)
    (h3 : ∀ env, starEach [e3] env = (false, eval e3 env) :: starEach [] env := by intros; exact starEach_plain rfl) : RangeE w d f N H (.Call (.Name (Str.ofString "range") np) [e1, e2, e3] [] pos) a b k := by
  intro c s Q E ok at' ret
  refine Call_ (Ev.bname BName.range.e BName.range.hv BName.range.hn hk BName.range.hb c s _ E ok at' ?_) (hm _)
  refine PyProof.Rows.callWith_type1 (EvL.cons he1 (EvL.cons he2 (EvL.cons he3 .nil h3) h2) h1 pos c _ _ E ok at' ?_) (h1 _) (by rw [h2, h3]; rfl)
  intro vs ys H2 h2' tk2 hK2 hD at2
  obtain ⟨rfl, rfl⟩ := hK2
  replace hD := hD.cons_inv
  obtain ⟨_, _, e_, hv, hD⟩ := hD
  cases e_
  replace hD := hD.cons_inv
  obtain ⟨_, _, e_, hv2, hD⟩ := hD
  cases e_
  replace hD := hD.cons_inv
  obtain ⟨_, _, e_, hv3, hn⟩ := hD
  cases e_
  (first | obtain rfl := hv.ri | obtain ⟨_, rfl⟩ := hv.ii | obtain rfl := hv.ni | obtain rfl := hv.mi | cases hv); (first | obtain rfl := hv2.ri | obtain ⟨_, rfl⟩ := hv2.ii | obtain rfl := hv2.ni | obtain rfl := hv2.mi | cases hv2); (first | obtain rfl := hv3.ri | obtain ⟨_, rfl⟩ := hv3.ii | obtain rfl := hv3.ni | obtain rfl := hv3.mi | cases hv3); (first | obtain rfl := hn.ri | obtain ⟨_, rfl⟩ := hn.ii | obtain rfl := hn.ni | obtain rfl := hn.mi | cases hn)
  obtain ⟨m, news, F, Nw, hN, hH⟩ := at2
  exact range3_rows (s := { s with heap := h2', toks := tk2 }) F Nw hk0 (fun h' tk t u v hR F' N' _ => ret _ h' tk t u v hR ⟨m, news, F', N', hN, hH⟩) (.inl hp)
theorem krs_ind {prog : Program} {A : Around} {E : Value → Shared → Prop} {s : Shared} {env : Env} {h₀ : Heap} {x : Str} {body : List Stmt} {Q : Flow → Shared → Prop} {I : Addr} {a c : Int} {n : Nat} (J : Nat → (Str → Option Value) → List (Addr × Obj) → Prop)
    (turn : ∀ i m news, i < n → J i m news → ∀ t h tk, Fr h₀ env.locals h (fun y => if y = x then some (.int (a + (i : Int) * c) t) else m y) →
      News h₀ env.locals h ((I, krsIt (a + ((i + 1 : Nat) : Int) * c) ((n : Int) - ((i + 1 : Nat) : Int)) c) :: news) → ∀ (R : (Str → Option Value) → List (Addr × Obj) → Prop), (∀ m' n', J (i + 1) m' n' → R m' n') →
      wpAny (model prog w) A (execs body env) (UnrPost h₀ env.locals { s with heap := h, toks := tk } I (krsIt (a + ((i + 1 : Nat) : Int) * c) ((n : Int) - ((i + 1 : Nat) : Int)) c) R Q) E { s with heap := h, toks := tk })
    (fin : ∀ m news, J n m news → ∀ h tk, Fr h₀ env.locals h m → News h₀ env.locals h news → Q .next { s with heap := h, toks := tk }) :
    ∀ k i m news, k + i = n → J i m news → KrsRest prog w A E h₀ env x body Q s I a c n k i m news
  | 0, i, m, news, e, hJ => KrsRest.zero (fin m news (by rw [Nat.zero_add] at e; subst e; exact hJ))
  | k + 1, i, m, news, e, hJ => KrsRest.succ rfl fun t h tk F N => turn i m news (by omega) hJ t h tk F N _ fun m' n' hJ' => krs_ind J turn fin k (i + 1) m' n' (by omega) hJ'
theorem Ex.forRange {K : Fl → List SV → Hp → Prop} {it : PySem.Expr} {x : Str} {xp pos : Pos} {body rest : List Stmt} {a b k : Int} {n i0 : Nat} (J : Nat → List SV → Hp → Prop) (hit : RangeE w d f N H it a b k) (hsmall : Builtin.Range.small a b k = true) (hn : Builtin.Range.rangeSize a b k = (n : Int))
    (hx' : VarAt f.vars i0 x) (h0 : J 0 N H)
    (turn : ∀ i N H, i < n → J i N H → Ex w d f (N.set i0 (.int (a + (i : Int) * k))) H body (fun fl N' H' => match fl with
      | .next => J (i + 1) N' H'
      | .cont => J (i + 1) N' H'
      | .brk => Ex w d f N' H' rest K
      | .ret v => K (.ret v) N' H'))
    (exit : ∀ N H, J n N H → Ex w d f N H rest K)
    (hs : ∀ env y, foldedSetIterable it env y = pure y := by intros; with_unfolding_all exact rfl) : Ex w d f N H (.For (.Name x xp) it body [] pos :: rest) K := by
  have hx := hx'.at'
  refine Ex.cons ?_
  intro c s Q E ok pe at' ret
  have hl := ok.g.loc x (List.mem_of_getElem? hx)
  obtain ⟨m, F⟩ := at'.fr
  refine For_invVF (h₀ := c.h₀) F hl.1 (by show (f.cs.kind == .class || (f.cs.kind == .module && _)) = false; rw [ok.g.hk]; rfl) (hit c s _ E ok at' ?_) (hs _) pe
  intro r h' tk' t u v hR at1
  obtain ⟨m1, news1, F1, N1, hN1, hH1⟩ := at1
  refine krs_iter (s := { s with heap := h', toks := tk' }) rfl hR hsmall hn F1 N1 (fun I hI => ?_)
  refine krs_ind (fun i m news => ∃ N H, J i N H ∧ NOK f N m ∧ HOK w c.ex H news ∧ H I = none ∧ ∀ p ∈ c.ex, p.1 ≠ I) ?_ ?_ n 0 m1 news1 (Nat.add_zero n) ⟨N, H, h0, hN1, hH1, hH1.fresh hI, fun p hp => Nat.ne_of_lt (hI _ (hH1.xs p hp).1)⟩
  · rintro i m news hi ⟨N, H, hJ, hN, hH, hIn, hIx⟩ t h tk F N' R hR'
    have hHa : HOK w ((I, krsIt (a + ((i + 1 : Nat) : Int) * k) ((n : Int) - ((i + 1 : Nat) : Int)) k) :: c.ex) H ((I, krsIt (a + ((i + 1 : Nat) : Int) * k) ((n : Int) - ((i + 1 : Nat) : Int)) k) :: news) :=
      ⟨fun a o e => let ⟨ob, hm, dd⟩ := hH.at' a o e; ⟨ob, List.mem_cons_of_mem _ hm, dd⟩, fun p hp => by
        rcases List.mem_cons.mp hp with rfl | hp
        · exact ⟨List.mem_cons_self, hIn⟩
        · exact ⟨List.mem_cons_of_mem _ (hH.xs p hp).1, (hH.xs p hp).2⟩⟩
    refine turn i N H hi hJ { c with ex := (I, krsIt (a + ((i + 1 : Nat) : Int) * k) ((n : Int) - ((i + 1 : Nat) : Int)) k) :: c.ex } { s with heap := h, toks := tk } _ E ⟨ok.B, ok.X, ok.T, ok.dl, ok.ul, ok.db, ok.g⟩ pe ⟨_, _, F, N', hN.set ok.g.nd hx (.int _ t), hHa⟩ ?_
    intro fl y N2 H2 h2 tk2 hK hF at2
    have fin : J (i + 1) N2 H2 → UnrEnd c.h₀ c.L { s with heap := h, toks := tk } I (krsIt (a + ((i + 1 : Nat) : Int) * k) ((n : Int) - ((i + 1 : Nat) : Int)) k) R { s with heap := h2, toks := tk2 } := by
      intro hJ2
      obtain ⟨m3, news3, F3, N3, hN3, hH3⟩ := at2
      refine UnrEnd.intro (s₁ := { s with heap := h, toks := tk }) F3 N3 (offL I news3) (fun p hp => ?_) offL_ne (hR' _ _ ⟨N2, H2, hJ2, hN3, hH3.out (fun p hp => hIx p hp), (hH3.xs _ List.mem_cons_self).2, hIx⟩)
      rcases List.mem_cons.mp hp with rfl | hp
      · exact (hH3.xs _ List.mem_cons_self).1
      · exact (List.mem_filter.mp hp).1
    have low : ∀ {N2 H2}, At w f { c with ex := (I, krsIt (a + ((i + 1 : Nat) : Int) * k) ((n : Int) - ((i + 1 : Nat) : Int)) k) :: c.ex } N2 H2 h2 → At w f c N2 H2 h2 := by
      rintro N2 H2 ⟨m3, news3, F3, N3, hN3, hH3⟩
      exact ⟨m3, news3, F3, N3, hN3, ⟨hH3.at', fun p hp => hH3.xs p (List.mem_cons_of_mem _ hp)⟩⟩
    cases hF with
    | next => exact fin hK
    | cont => exact fin hK
    | brk => exact ret .next .next N2 H2 h2 tk2 hK .next (low at2)
    | ret hd => exact ret (.ret _) (.ret _) N2 H2 h2 tk2 hK (.ret hd) (low at2)
  · rintro m news ⟨N, H, hJ, hN, hH, _, _⟩ h tk F N'
    exact ret .next .next N H h tk (exit N H hJ) .next ⟨m, news, F, N', hN, hH⟩
end
end Mine
end
section
-- Q7
open PySem PySem.W PyProof.Rows
set_option Elab.async false
set_option maxRecDepth 100000
set_option linter.unusedVariables false
namespace Mine
noncomputable abbrev intL (ns : List Int) : SO := .lst (ns.map SV.int)
theorem ints_of {ns : List Int} : ∀ {ys : List Value}, DenL (ns.map SV.int) ys → IntsAre ys ns := by
  induction ns with
  | nil => intro ys h; cases h; exact .nil
  | cons n ns ih =>
    intro ys h
    cases h with
    | cons h1 h2 => (first | obtain rfl := h1.ri | obtain ⟨_, rfl⟩ := h1.ii | obtain rfl := h1.ni | obtain rfl := h1.mi | cases h1); exact .cons _ _ (ih h2)
theorem of_ints {ys : List Value} {ns : List Int} (h : IntsAre ys ns) : DenL (ns.map SV.int) ys := by
  induction h with
  | nil => exact .nil
  | cons n t _ ih => exact .cons (.int n t) ih
section
variable {w : World} {d : Nat} {f : FI} {N : List SV} {H : Hp}
/-- xs[i:], of a list of ints -/
theorem Ev.sliceFrom {e i : PySem.Expr} {a : Addr} {ns : List Int} {k : Int} {sp pos : Pos} (he : EvP w d f N H e (.ref a)) (hi : EvP w d f N H i (.int k)) (ha : H a = some (intL ns)) (h0 : 0 ≤ k) (hz : ns.length ≤ 100000)
    (hs : ∀ a b, subscripted (.Slice (some i) none none sp) false (.ref a) (.ref b) = operate [.ref b, .ref a] (getItem (.ref a) (.ref b)) := by intros; with_unfolding_all exact rfl)
    (ht : ∀ a r, letTemporaryGo e (.ref a) r = pure () := by intros; with_unfolding_all exact rfl) :
    Ev w d f N H (.Subscript e (.Slice (some i) none none sp) pos) (fun v H' => ∃ b, v = .ref b ∧ H b = none ∧ H' = H.set b (intL (ns.drop k.toNat))) := by
  intro c s Q E ok at' ret
  refine Subscript_ (he c s _ E ok at' ?_)
  intro v1 y1 H1 h1 tk1 hK hD at1
  obtain ⟨rfl, rfl⟩ := hK
  (first | obtain rfl := hD.ri | obtain ⟨_, rfl⟩ := hD.ii | obtain rfl := hD.ni | obtain rfl := hD.mi | cases hD)
  refine wpAny_Slice (evalPart_some_step (hi c { s with heap := h1, toks := tk1 } _ E ok at1 ?_))
  intro v2 y2 H2 h2 tk2 hK hD at2
  obtain ⟨rfl, rfl⟩ := hK
  (first | obtain rfl := hD.ri | obtain ⟨_, rfl⟩ := hD.ii | obtain rfl := hD.ni | obtain rfl := hD.mi | cases hD)
  refine evalPart_none_step (evalPart_none_step ?_)
  obtain ⟨m, news, F, Nw, hN, hH⟩ := at2
  obtain ⟨oa, ma, da⟩ := hH.get ha
  obtain ⟨_, n, rfl, dL⟩ := da.lst_inv
  refine slice_from (s := { s with heap := h2, toks := tk2 }) F Nw ma (ints_of dL) h0 hz (fun D ws h' hI F' N' hl => ?_) (hs _ _) (ht _)
  exact ret (.ref D) _ _ h' tk2 ⟨D, rfl, hH.fresh hl, rfl⟩ (.ref D) ⟨m, _, F', N', hN, hH.new hl (.lst 0 (of_ints hI))⟩
theorem slice_to {prog : Program} {A : Around} {E : Value → Shared → Prop} {s : Shared} {h₀ : Heap} {L : Addr} {m : Str → Option Value} {news : List (Addr × Obj)} {value slice : PySem.Expr} {l : Addr} {vs : List Value} {ns : List Int} {x : Int} {u : Tok} {Q : Value → Shared → Prop} (F : Fr h₀ L s.heap m) (N : News h₀ L s.heap news) (hl : s.heap.IsList l vs.toArray) (hi : IntsAre vs ns) (h0 : 0 ≤ x) (hz : ns.length ≤ 100000)
    (h : ∀ D ws h', IntsAre ws (ns.take x.toNat) → Fr h₀ L h' m → News h₀ L h' ((D, listOf (List.toArray ws) 0) :: news) → (∀ p ∈ news, p.1 < D) → Q (.ref D) { s with heap := h' })
    (hs : subscripted slice false (.ref l) (.ref s.heap.objs.size) = operate [.ref s.heap.objs.size, .ref l] (getItem (.ref l) (.ref s.heap.objs.size))) (ht : ∀ r, letTemporaryGo value (.ref l) r = pure ()) :
    wpAny (model prog w) A (subscriptTail value slice (.ref l) (.ref s.heap.objs.size)) Q E { s with heap := s.heap.push { cls := .type "slice", data := .fields #[.none, .int x u, .none] } } := by
  have hz' : vs.toArray.size ≤ sizeLine := by rw [List.size_toArray, hi.length]; simp only [sizeLine]; omega
  exact kmk_slice_ints F N hl IsPart.none (IsPart.int _ _) hi (kmk_upto hi h0) rfl (fun D ws h' F' N' l1 hI _ _ => h D ws h' hI F' N' l1) hs ht hz'
/-- xs.extend(e), of lists of ints -/
theorem Ev.extend {o e : PySem.Expr} {D : Addr} {vs0 : List SV} {K1 : SV → Hp → Prop} {K : SV → Hp → Prop} {apos pos : Pos} (ho : EvP w d f N H o (.ref D)) (h0 : H D = some (.lst vs0)) (he : Ev w d f N H e K1)
    (hK : ∀ v H1, K1 v H1 → ∃ b ms os, v = .ref b ∧ H1 b = some (intL ms) ∧ H1 D = some (intL os) ∧ b ≠ D ∧ os.length + ms.length ≤ 100000 ∧ K .none (H1.set D (intL (os ++ ms))))
    (hm : ∀ env, ∃ pl, eval (.Call (.Attribute o (Str.ofString "extend") apos) [e] [] pos) env = (do
      let ov ← eval o env
      standAt apos.atName
      let (g, first) ← holding [ov] (getMethod ov (Str.ofString "extend") pl)
      callWith pos g first (backTo pos (starEach [e] env)) []) := by intros; with_unfolding_all exact ⟨_, rfl⟩)
    (h1 : ∀ env, starEach [e] env = (false, eval e env) :: starEach [] env := by intros; exact starEach_plain rfl) : Ev w d f N H (.Call (.Attribute o (Str.ofString "extend") apos) [e] [] pos) K := by
  intro c s Q E ok at' ret
  obtain ⟨pl, hm⟩ := hm (c.env f)
  refine MethodCall_ (ho c s _ E ok at' ?_) hm
  intro v1 y1 H1 h1' tk1 hK1 hD1 at2
  obtain ⟨rfl, rfl⟩ := hK1
  (first | obtain rfl := hD1.ri | obtain ⟨_, rfl⟩ := hD1.ii | obtain rfl := hD1.ni | obtain rfl := hD1.mi | cases hD1)
  have at3 := at2
  obtain ⟨m, news, F, Nw, hN, hH⟩ := at2
  obtain ⟨oa, ma, da⟩ := hH.get h0
  obtain ⟨_, n, rfl, dL⟩ := da.lst_inv
  refine kl_method (s := { s with heap := h1', toks := tk1 }) Nw ma PySem.F.slot_list_extend PySem.F.type_list_extend ?_
  refine callWith_method1 (EvL.consK (K := fun vs H2 => ∃ v, vs = [v] ∧ K1 v H2) he (fun v H2 h => EvL.nilK ⟨v, rfl, h⟩) h1 pos c _ _ E ok at3 ?_) (h1 _) rfl
  intro vs ys H2 h2' tk2 hK2 hD at4
  obtain ⟨v, rfl, hKv⟩ := hK2
  obtain ⟨b, ms, os, rfl, hb, hDD, hne, hz, hk⟩ := hK v H2 hKv
  replace hD := hD.cons_inv
  obtain ⟨_, _, e_, hv, hnil⟩ := hD
  cases e_
  (first | obtain rfl := hnil.ri | obtain ⟨_, rfl⟩ := hnil.ii | obtain rfl := hnil.ni | obtain rfl := hnil.mi | cases hnil); (first | obtain rfl := hv.ri | obtain ⟨_, rfl⟩ := hv.ii | obtain rfl := hv.ni | obtain rfl := hv.mi | cases hv)
  obtain ⟨m2, news2, F2, Nw2, hN2, hH2⟩ := at4
  obtain ⟨ob, mb, db⟩ := hH2.get hb
  obtain ⟨oD, mD, dD⟩ := hH2.get hDD
  obtain ⟨_, n2, rfl, dL2⟩ := db.lst_inv
  obtain ⟨_, n3, rfl, dL3⟩ := dD.lst_inv
  refine ext_list (s := { s with heap := h2', toks := tk2 }) F2 (newsOff Nw2 mD) (List.mem_cons_of_mem _ (List.mem_filter.mpr ⟨mb, by simp [hne]⟩)) (ints_of dL3) (ints_of dL2) (.head offL_ne) hz (fun h' k xs hI F' N' => ?_)
  exact ret _ _ _ h' tk2 hk .none ⟨m2, _, F', N', hN2, hH2.put hDD (.lst _ (of_ints hI))⟩
end
end Mine
end
section
-- Q8
open PySem PySem.W PyProof.Rows
set_option Elab.async false
set_option maxRecDepth 100000
set_option linter.unusedVariables false
namespace Mine
theorem DenK.look {es : List (Str × SV)} {ks : List (Str × Value)} (h : DenK es ks) {x : Str} : (∀ v, es.lookup x = some v → ∃ y, valueAt ks x = some y ∧ Den v y) ∧ (es.lookup x = none → valueAt ks x = none) := by
  induction h with
  | nil => exact ⟨(fun v e => by cases e), fun _ => rfl⟩
  | cons d h ih =>
    rename_i x0 v0 y0 es' ks'
    by_cases hx : x = x0
    · subst hx
      refine ⟨fun v e => ?_, fun e => ?_⟩
      · rw [List.lookup_cons, beq_self_eq_true] at e; cases e
        exact ⟨y0, by simp [valueAt], d⟩
      · rw [List.lookup_cons, beq_self_eq_true] at e; cases e
    · have hf : (x == x0) = false := beq_eq_false_iff_ne.mpr hx
      have e1 : valueAt ((x0, y0) :: ks') x = valueAt ks' x := by simp [valueAt, Ne.symm hx]
      rw [e1]
      refine ⟨fun v e => ?_, fun e => ?_⟩
      · rw [List.lookup_cons, hf] at e; exact ih.1 v e
      · rw [List.lookup_cons, hf] at e; exact ih.2 e
theorem DenK.length {es : List (Str × SV)} {ks : List (Str × Value)} (h : DenK es ks) : ks.length = es.length := by
  induction h with
  | nil => rfl
  | cons _ _ ih => simp only [List.length_cons, ih]
theorem DenK.snoc {es : List (Str × SV)} {ks : List (Str × Value)} (h : DenK es ks) {x : Str} {v : SV} {y : Value} (e : es.lookup x = none) (d : Den v y) : DenK (es ++ [(x, v)]) (stored ks x y) := by
  have hn := h.look.2 e
  have ha : ks.any (fun kv => decide (kv.1 = x)) = false := by
    unfold valueAt at hn
    rw [Option.map_eq_none_iff, List.find?_eq_none] at hn
    rw [List.any_eq_false]
    exact hn
  unfold stored
  rw [ha, if_neg Bool.false_ne_true]
  clear hn ha e
  induction h with
  | nil => exact .cons d .nil
  | cons d' _ ih => exact .cons d' ih
noncomputable def ttLook (es : List ((Int × Int) × Addr × Int)) (a n : Int) : Option Int := (es.find? fun x => decide (x.1 = (a, n))).map (·.2.2)
theorem DenT.look {es : List ((Int × Int) × Addr × Int)} {ys : List (List Int × Addr × Value)} (h : DenT es ys) (a n : Int) : (∀ z, ttLook es a n = some z → ∃ k t, atKey ys [a, n] = some (k, .int z t)) ∧ (ttLook es a n = none → atKey ys [a, n] = none) := by
  induction h with
  | nil => exact ⟨(fun v e => by simp [ttLook] at e), fun _ => rfl⟩
  | cons h ih =>
    rename_i a0 n0 z0 k0 t0 es' ys'
    by_cases hx : (a0, n0) = (a, n)
    · have h1 : a0 = a := congrArg Prod.fst hx
      have h2 : n0 = n := congrArg Prod.snd hx
      subst h1; subst h2
      refine ⟨fun v e => ?_, fun e => ?_⟩
      · simp [ttLook] at e
        subst e
        exact ⟨k0, t0, by simp [atKey]⟩
      · simp [ttLook] at e
    · have hx2 : ¬ ([a0, n0] = [a, n]) := fun q => hx (by simp at q; rw [q.1, q.2])
      have e1 : atKey (([a0, n0], k0, Value.int z0 t0) :: ys') [a, n] = atKey ys' [a, n] := by
        unfold atKey
        rw [List.find?_cons_of_neg (by simpa using hx2)]
      have e2 : ttLook (((a0, n0), k0, z0) :: es') a n = ttLook es' a n := by
        unfold ttLook
        rw [List.find?_cons_of_neg (by simpa using hx)]
      rw [e1, e2]
      exact ih
theorem DenT.length {es : List ((Int × Int) × Addr × Int)} {ys : List (List Int × Addr × Value)} (h : DenT es ys) : ys.length = es.length := by
  induction h with
  | nil => rfl
  | cons _ ih => simp only [List.length_cons, ih]
theorem DenT.snoc {es : List ((Int × Int) × Addr × Int)} {ys : List (List Int × Addr × Value)} (h : DenT es ys) {a n z : Int} {k : Addr} {t : Tok} (e : ttLook es a n = none) : DenT (es ++ [((a, n), k, z)]) (storedH ys [a, n] k (.int z t)) := by
  rw [storedH_new ((h.look a n).2 e)]
  clear e
  induction h with
  | nil => exact .cons .nil
  | cons _ ih => exact .cons ih
/-- the keys of a table are tuples that lie in the heap -/
noncomputable def KeysAt (H : Hp) (es : List ((Int × Int) × Addr × Int)) : Prop := ∀ x ∈ es, H x.2.1 = some (cellO x.1.1 x.1.2)
theorem tupKey_of {w : World} {ex news : _} {H : Hp} {h₀ h : Heap} {L : Addr} (hh : HOK w ex H news) (N : News h₀ L h news) {k : Addr} {a n : Int} (hk : H k = some (cellO a n)) : IsTupleKey (PySem.intKind PW w) h [a, n] k := by
  obtain ⟨u1, u2, nn, hm⟩ := cellVals hh hk
  exact ⟨_, _, _, (N _ hm).1, rfl, rfl, .cons (intKind_is _ _ _ _) (.cons (intKind_is _ _ _ _) .nil)⟩
theorem DenT.keys {w : World} {ex news : _} {H : Hp} {h₀ h : Heap} {L : Addr} (hh : HOK w ex H news) (N : News h₀ L h news) {es : List ((Int × Int) × Addr × Int)} {ys : List (List Int × Addr × Value)} (hd : DenT es ys) : KeysAt H es → ∀ x ∈ ys, IsTupleKey (PySem.intKind PW w) h x.1 x.2.1 := by
  induction hd with
  | nil => intro _ x hx; (first | obtain rfl := hx.ri | obtain ⟨_, rfl⟩ := hx.ii | obtain rfl := hx.ni | obtain rfl := hx.mi | cases hx)
  | cons _ ih =>
    intro hk x hx
    rcases List.mem_cons.mp hx with rfl | hx
    · exact tupKey_of hh N (hk _ List.mem_cons_self)
    · exact ih (fun y hy => hk y (List.mem_cons_of_mem _ hy)) x hx
section
variable {w : World} {d : Nat} {f : FI} {N : List SV} {H : Hp}
theorem Ev.newdictS {pos : Pos} : Ev w d f N H (.Dict [] [] pos) (fun v H' => ∃ a, v = .ref a ∧ H a = none ∧ (a == sysModules) = false ∧ H' = H.set a (.stab [])) := by
  intro c s Q E ok at' ret
  obtain ⟨m, news, F, Nw, hN, hH⟩ := at'
  refine newDict_K F Nw ok.T.nolimit (fun D h' o F' N' hl lo hs _ _ _ => ?_)
  exact ret (.ref D) _ _ h' s.toks ⟨D, rfl, hH.fresh hl, lo, rfl⟩ (.ref D) ⟨m, _, F', N', hN, hH.new hl (.stab hs .nil)⟩
theorem Ev.newdictT {pos : Pos} : Ev w d f N H (.Dict [] [] pos) (fun v H' => ∃ a, v = .ref a ∧ H a = none ∧ (a == sysModules) = false ∧ H' = H.set a (.ttab [])) := by
  intro c s Q E ok at' ret
  obtain ⟨m, news, F, Nw, hN, hH⟩ := at'
  refine newDict_K F Nw ok.T.nolimit (fun D h' o F' N' hl lo hs _ _ _ => ?_)
  obtain ⟨es, ep, hc, hdat, _, hp, _⟩ := hs
  have he : es.toList = [] := List.length_eq_zero_iff.mp hp.length
  exact ret (.ref D) _ _ h' s.toks ⟨D, rfl, hH.fresh hl, lo, rfl⟩ (.ref D) ⟨m, _, F', N', hN, hH.new hl (.ttab hc hdat .nil he List.nodup_nil)⟩
/-- d.get(k, z), a table of texts -/
theorem Ev.getS {o k e : PySem.Expr} {a : Addr} {es : List (Str × SV)} {x : Str} {z : SV} {v : SV} {apos pos : Pos} (ho : EvP w d f N H o (.ref a)) (ha : H a = some (.stab es)) (lo : (a == sysModules) = false) (hk : EvP w d f N H k (.str x)) (he : EvP w d f N H e z) (hv : (es.lookup x).getD z = v)
    (hm : ∀ env, ∃ pl, eval (.Call (.Attribute o (Str.ofString "get") apos) [k, e] [] pos) env = (do
      let ov ← eval o env
      standAt apos.atName
      let (g, first) ← holding [ov] (getMethod ov (Str.ofString "get") pl)
      callWith pos g first (backTo pos (starEach [k, e] env)) []) := by intros; with_unfolding_all exact ⟨_, rfl⟩)
    (h1 : ∀ env, starEach [k, e] env = (false, eval k env) :: starEach [e] env := by intros; exact starEach_plain rfl) (h2 : ∀ env, starEach [e] env = (false, eval e env) :: starEach [] env := by intros; exact starEach_plain rfl) :
    EvP w d f N H (.Call (.Attribute o (Str.ofString "get") apos) [k, e] [] pos) v := by
  intro c s Q E ok at' ret
  obtain ⟨pl, hm⟩ := hm (c.env f)
  refine MethodCall_ (ho c s _ E ok at' ?_) hm
  intro v1 y1 H1 h1' tk1 hK1 hD1 at2
  obtain ⟨rfl, rfl⟩ := hK1
  (first | obtain rfl := hD1.ri | obtain ⟨_, rfl⟩ := hD1.ii | obtain rfl := hD1.ni | obtain rfl := hD1.mi | cases hD1)
  have at3 := at2
  obtain ⟨m, news, F, Nw, hN, hH⟩ := at2
  obtain ⟨oa, ma, da⟩ := hH.get ha
  obtain ⟨_, hd, hk0⟩ := da.stab_inv
  refine kdg_method (s := { s with heap := h1', toks := tk1 }) (knd := PySem.strKind PW w) Nw ma hd ?_
  refine callWith_method1 (EvL.cons hk (EvL.cons he .nil h2) h1 pos c _ _ E ok at3 ?_) (h1 _) (by rw [h2]; rfl)
  intro vs ys H2 h2' tk2 hK2 hD at4
  obtain ⟨rfl, rfl⟩ := hK2
  have at5 := at4
  obtain ⟨m2, news2, F2, Nw2, hN2, hH2⟩ := at4
  obtain ⟨ob, mb, db⟩ := hH2.get ha
  replace hD := hD.cons_inv
  obtain ⟨_, _, e_, hv1, hD⟩ := hD
  cases e_
  replace hD := hD.cons_inv
  obtain ⟨_, _, e_, hv2, hD⟩ := hD
  cases e_
  (first | obtain rfl := hD.ri | obtain ⟨_, rfl⟩ := hD.ii | obtain rfl := hD.ni | obtain rfl := hD.mi | cases hD); (first | obtain rfl := hv1.ri | obtain ⟨_, rfl⟩ := hv1.ii | obtain rfl := hv1.ni | obtain rfl := hv1.mi | cases hv1)
  obtain ⟨_, hd2, hk2⟩ := db.stab_inv
  refine kdg_get2 (s := { s with heap := h2', toks := tk2 }) (knd := PySem.strKind PW w) Nw2 mb hd2 lo (strKind_is _ _ _ _) _ rfl ?_
  cases q : es.lookup x with
  | none =>
    rw [hk2.look.2 q]
    rw [q] at hv; subst hv
    exact ret _ _ H2 h2' _ ⟨rfl, rfl⟩ hv2 at5
  | some v' =>
    obtain ⟨y, hy, hden⟩ := hk2.look.1 v' q
    rw [hy]
    rw [q] at hv; subst hv
    exact ret _ _ H2 h2' _ ⟨rfl, rfl⟩ hden at5
theorem Ev.getT {o k e : PySem.Expr} {a kt : Addr} {es : List ((Int × Int) × Addr × Int)} {x n z r : Int} {apos pos : Pos} (ho : EvP w d f N H o (.ref a)) (ha : H a = some (.ttab es)) (lo : (a == sysModules) = false) (hks : KeysAt H es) (hk : EvP w d f N H k (.ref kt)) (hkt : H kt = some (cellO x n)) (he : EvP w d f N H e (.int z)) (hv : (ttLook es x n).getD z = r)
    (hm : ∀ env, ∃ pl, eval (.Call (.Attribute o (Str.ofString "get") apos) [k, e] [] pos) env = (do
      let ov ← eval o env
      standAt apos.atName
      let (g, first) ← holding [ov] (getMethod ov (Str.ofString "get") pl)
      callWith pos g first (backTo pos (starEach [k, e] env)) []) := by intros; with_unfolding_all exact ⟨_, rfl⟩)
    (h1 : ∀ env, starEach [k, e] env = (false, eval k env) :: starEach [e] env := by intros; exact starEach_plain rfl) (h2 : ∀ env, starEach [e] env = (false, eval e env) :: starEach [] env := by intros; exact starEach_plain rfl) :
    EvP w d f N H (.Call (.Attribute o (Str.ofString "get") apos) [k, e] [] pos) (.int r) := by
  intro c s Q E ok at' ret
  obtain ⟨pl, hm⟩ := hm (c.env f)
  refine MethodCall_ (ho c s _ E ok at' ?_) hm
  intro v1 y1 H1 h1' tk1 hK1 hD1 at2
  obtain ⟨rfl, rfl⟩ := hK1
  (first | obtain rfl := hD1.ri | obtain ⟨_, rfl⟩ := hD1.ii | obtain rfl := hD1.ni | obtain rfl := hD1.mi | cases hD1)
  have at3 := at2
  obtain ⟨m, news, F, Nw, hN, hH⟩ := at2
  obtain ⟨oa, ma, da⟩ := hH.get ha
  obtain ⟨_, _, _, hc, hdat, hT, hl, hnd⟩ := da.ttab_inv
  have hDH : h1'.DictOfH (tupleKind (PySem.intKind PW w)) a _ := ⟨_, _, _, (Nw _ ma).1, hc, hdat, hl, hT.keys hH Nw hks, hnd⟩
  refine getMethod_builtin (s := { s with heap := h1', toks := tk1 }) hDH.typeIs PySem.F.plainAttrs_dict PySem.F.slot_dict_get PySem.F.type_dict_get (dictOfH_noDict hDH) ?_
  refine callWith_method1 (EvL.cons hk (EvL.cons he .nil h2) h1 pos c _ _ E ok at3 ?_) (h1 _) (by rw [h2]; rfl)
  intro vs ys H2 h2' tk2 hK2 hD at4
  obtain ⟨rfl, rfl⟩ := hK2
  have at5 := at4
  obtain ⟨m2, news2, F2, Nw2, hN2, hH2⟩ := at4
  obtain ⟨ob, mb, db⟩ := hH2.get ha
  replace hD := hD.cons_inv
  obtain ⟨_, _, e_, hv1, hD⟩ := hD
  cases e_
  replace hD := hD.cons_inv
  obtain ⟨_, _, e_, hv2, hD⟩ := hD
  cases e_
  (first | obtain rfl := hD.ri | obtain ⟨_, rfl⟩ := hD.ii | obtain rfl := hD.ni | obtain rfl := hD.mi | cases hD); (first | obtain rfl := hv1.ri | obtain ⟨_, rfl⟩ := hv1.ii | obtain rfl := hv1.ni | obtain rfl := hv1.mi | cases hv1); (first | obtain rfl := hv2.ri | obtain ⟨_, rfl⟩ := hv2.ii | obtain rfl := hv2.ni | obtain rfl := hv2.mi | cases hv2)
  obtain ⟨_, _, _, hc2, hdat2, hT2, hl2, hnd2⟩ := db.ttab_inv
  have hDH2 : h2'.DictOfH (tupleKind (PySem.intKind PW w)) a _ := ⟨_, _, _, (Nw2 _ mb).1, hc2, hdat2, hl2, hT2.keys hH2 Nw2 hks, hnd2⟩
  refine call_meetsIn (s := { s with heap := h2', toks := tk2 }) PySem.F.slot_dict_get hDH2.typeIs PySem.F.entry_dict_get (PySem.F.args_dict_get_3 _ _ _) (meetsH_dict_get_default (tupleKind (PySem.intKind PW w)) a kt lo _) ⟨tupleKind_room_in1 (by have := units_ok ok; omega), [x, n], _, tupKey_of hH2 Nw2 hkt, hDH2, ?_⟩
  cases q : ttLook es x n with
  | none =>
    rw [(hT2.look x n).2 q]
    rw [q] at hv; subst hv
    exact ret _ _ H2 h2' _ ⟨rfl, rfl⟩ (.int _ _) at5
  | some v' =>
    obtain ⟨y, t, hy⟩ := (hT2.look x n).1 v' q
    rw [hy]
    rw [q] at hv; subst hv
    exact ret _ _ H2 h2' _ ⟨rfl, rfl⟩ (.int _ _) at5
theorem Ex.setS {K : Fl → List SV → Hp → Prop} {o i e : PySem.Expr} {ap pos : Pos} {rest : List Stmt} {a : Addr} {es : List (Str × SV)} {x : Str} {v : SV} (he : EvP w d f N H e v) (ho : EvP w d f N H o (.ref a)) (hi : EvP w d f N H i (.str x)) (ha : H a = some (.stab es)) (hx : es.lookup x = none) (hz : es.length ≤ 100000)
    (h : Ex w d f N (H.set a (.stab (es ++ [(x, v)]))) rest K)
    (hm : ∀ env, swapsWith e (some (.Subscript o i ap)) pos.line env = pure false := by intros; with_unfolding_all exact rfl) : Ex w d f N H (.Assign [.Subscript o i ap] e pos :: rest) K := by
  refine Ex.cons ?_
  intro c s Q E ok pe at' ret
  refine wpAny_Assign_Subscript (he c s _ E ok at' ?_) (hm _)
  intro v1 y1 H1 h1 tk1 hK1 hD1 at1
  obtain ⟨rfl, rfl⟩ := hK1
  refine ho c { s with heap := h1, toks := tk1 } _ E ok at1 ?_
  intro v2 y2 H2 h2 tk2 hK2 hD2 at2
  obtain ⟨rfl, rfl⟩ := hK2
  (first | obtain rfl := hD2.ri | obtain ⟨_, rfl⟩ := hD2.ii | obtain rfl := hD2.ni | obtain rfl := hD2.mi | cases hD2)
  refine hi c { s with heap := h2, toks := tk2 } _ E ok at2 ?_
  intro v3 y3 H3 h3 tk3 hK3 hD3 at3
  obtain ⟨rfl, rfl⟩ := hK3
  (first | obtain rfl := hD3.ri | obtain ⟨_, rfl⟩ := hD3.ii | obtain rfl := hD3.ni | obtain rfl := hD3.mi | cases hD3)
  obtain ⟨m, news, F, Nw, hN, hH⟩ := at3
  obtain ⟨ob, mb, db⟩ := hH.get ha
  obtain ⟨_, hd, hk⟩ := db.stab_inv
  refine kda_set (s := { s with heap := h3, toks := tk3 }) (knd := PySem.strKind PW w) F (newsOff Nw mb) (.head offL_ne) hd (strKind_is _ _ _ _) (by rw [hk.length]; simp only [sizeLine]; omega) (fun h' o' F' N' hd' => ?_)
  exact ret .next .next N _ h' _ h .next ⟨m, _, F', N', hN, hH.put ha (.stab hd' (hk.snoc hx hD1))⟩
theorem Ex.setT {K : Fl → List SV → Hp → Prop} {o i e : PySem.Expr} {ap pos : Pos} {rest : List Stmt} {a kt : Addr} {es : List ((Int × Int) × Addr × Int)} {x n z : Int} (he : EvP w d f N H e (.int z)) (ho : EvP w d f N H o (.ref a)) (hi : EvP w d f N H i (.ref kt)) (ha : H a = some (.ttab es)) (hks : KeysAt H es) (hkt : H kt = some (cellO x n)) (hx : ttLook es x n = none) (hz : es.length ≤ 100000)
    (h : Ex w d f N (H.set a (.ttab (es ++ [((x, n), kt, z)]))) rest K)
    (hm : ∀ env, swapsWith e (some (.Subscript o i ap)) pos.line env = pure false := by intros; with_unfolding_all exact rfl) : Ex w d f N H (.Assign [.Subscript o i ap] e pos :: rest) K := by
  refine Ex.cons ?_
  intro c s Q E ok pe at' ret
  refine wpAny_Assign_Subscript (he c s _ E ok at' ?_) (hm _)
  intro v1 y1 H1 h1 tk1 hK1 hD1 at1
  obtain ⟨rfl, rfl⟩ := hK1
  refine ho c { s with heap := h1, toks := tk1 } _ E ok at1 ?_
  intro v2 y2 H2 h2 tk2 hK2 hD2 at2
  obtain ⟨rfl, rfl⟩ := hK2
  (first | obtain rfl := hD2.ri | obtain ⟨_, rfl⟩ := hD2.ii | obtain rfl := hD2.ni | obtain rfl := hD2.mi | cases hD2)
  refine hi c { s with heap := h2, toks := tk2 } _ E ok at2 ?_
  intro v3 y3 H3 h3 tk3 hK3 hD3 at3
  obtain ⟨rfl, rfl⟩ := hK3
  (first | obtain rfl := hD3.ri | obtain ⟨_, rfl⟩ := hD3.ii | obtain rfl := hD3.ni | obtain rfl := hD3.mi | cases hD3); (first | obtain rfl := hD1.ri | obtain ⟨_, rfl⟩ := hD1.ii | obtain rfl := hD1.ni | obtain rfl := hD1.mi | cases hD1)
  obtain ⟨m, news, F, Nw, hN, hH⟩ := at3
  obtain ⟨ob, mb, db⟩ := hH.get ha
  obtain ⟨_, _, _, hc, hdat, hT, hl, hnd⟩ := db.ttab_inv
  have hDH : h3.DictOfH (tupleKind (PySem.intKind PW w)) a _ := ⟨_, _, _, (Nw _ mb).1, hc, hdat, hl, hT.keys hH Nw hks, hnd⟩
  refine wpAny_setItem_heap (s := { s with heap := h3, toks := tk3 }) (knd := tupleKind (PySem.intKind PW w)) (tupleKind_room_in1 (by have := units_ok ok; omega)) (tupKey_of hH Nw hkt) hDH (fun h' hm' hs => ?_) (by rw [hT.length]; simp only [sizeLine]; omega)
  obtain ⟨o', es', ep', ho', hc', hd', he', _, hn'⟩ := hm'
  exact ret .next .next N _ h' _ h .next ⟨m, _, F.change hs (Nw _ mb).2.1 (Nw _ mb).2.2, News.setIn (own := []) (newsOff Nw mb) (fun _ hp => (List.not_mem_nil hp).elim) offL_ne hs ho', hN, hH.put ha (.ttab hc' hd' (hT.snoc hx) he' hn')⟩
/-- xs[i] = e -/
theorem Ex.setL {K : Fl → List SV → Hp → Prop} {o i e : PySem.Expr} {ap pos : Pos} {rest : List Stmt} {a : Addr} {vs : List SV} {k : Int} {v : SV} (he : EvP w d f N H e v) (ho : EvP w d f N H o (.ref a)) (hi : EvP w d f N H i (.int k)) (ha : H a = some (.lst vs)) (h0 : 0 ≤ k) (h1' : k < vs.length) (hz : vs.length ≤ 1000000)
    (h : Ex w d f N (H.set a (.lst (vs.set k.toNat v))) rest K)
    (hm : ∀ env, swapsWith e (some (.Subscript o i ap)) pos.line env = pure false := by intros; with_unfolding_all exact rfl) : Ex w d f N H (.Assign [.Subscript o i ap] e pos :: rest) K := by
  refine Ex.cons ?_
  intro c s Q E ok pe at' ret
  refine wpAny_Assign_Subscript (he c s _ E ok at' ?_) (hm _)
  intro v1 y1 H1 h1 tk1 hK1 hD1 at1
  obtain ⟨rfl, rfl⟩ := hK1
  refine ho c { s with heap := h1, toks := tk1 } _ E ok at1 ?_
  intro v2 y2 H2 h2 tk2 hK2 hD2 at2
  obtain ⟨rfl, rfl⟩ := hK2
  (first | obtain rfl := hD2.ri | obtain ⟨_, rfl⟩ := hD2.ii | obtain rfl := hD2.ni | obtain rfl := hD2.mi | cases hD2)
  refine hi c { s with heap := h2, toks := tk2 } _ E ok at2 ?_
  intro v3 y3 H3 h3 tk3 hK3 hD3 at3
  obtain ⟨rfl, rfl⟩ := hK3
  (first | obtain rfl := hD3.ri | obtain ⟨_, rfl⟩ := hD3.ii | obtain rfl := hD3.ni | obtain rfl := hD3.mi | cases hD3)
  obtain ⟨m, news, F, Nw, hN, hH⟩ := at3
  obtain ⟨ob, mb, db⟩ := hH.get ha
  obtain ⟨_, n, rfl, dL⟩ := db.lst_inv
  have hln := dL.length
  refine list_put (s := { s with heap := h3, toks := tk3 }) F (newsOff Nw mb) (.head offL_ne) arrL h0 rfl (by omega) (by omega) (fun h' F' N' => ?_)
  exact ret .next .next N _ h' _ h .next ⟨m, _, F', N', hN, hH.put ha (.lst _ (dL.set hD1 _))⟩
/-- xs[i] = e, e an effect -/
theorem St.setLK {K : Fl → List SV → Hp → Prop} {o i e : PySem.Expr} {ap pos : Pos} {rest : List Stmt} {vs : List SV} {k : Int} {K1 : SV → Hp → Prop} (he : Ev w d f N H e K1)
    (h : ∀ v H1, K1 v H1 → ∃ a, EvP w d f N H1 o (.ref a) ∧ EvP w d f N H1 i (.int k) ∧ H1 a = some (.lst vs) ∧ 0 ≤ k ∧ k < vs.length ∧ vs.length ≤ 1000000 ∧ Ex w d f N (H1.set a (.lst (vs.set k.toNat v))) rest K)
    (hm : ∀ env, swapsWith e (some (.Subscript o i ap)) pos.line env = pure false := by intros; with_unfolding_all exact rfl) : St w d f N H (.Assign [.Subscript o i ap] e pos) (kseq w d f rest K) := by
  intro c s Q E ok pe at' ret
  refine wpAny_Assign_Subscript (he c s _ E ok at' ?_) (hm _)
  intro v1 y1 H1 h1 tk1 hK1 hD1 at1
  obtain ⟨a, ho, hi, ha, h0, h1', hz, hr⟩ := h v1 H1 hK1
  refine ho c { s with heap := h1, toks := tk1 } _ E ok at1 ?_
  intro v2 y2 H2 h2 tk2 hK2 hD2 at2
  obtain ⟨rfl, rfl⟩ := hK2
  (first | obtain rfl := hD2.ri | obtain ⟨_, rfl⟩ := hD2.ii | obtain rfl := hD2.ni | obtain rfl := hD2.mi | cases hD2)
  refine hi c { s with heap := h2, toks := tk2 } _ E ok at2 ?_
  intro v3 y3 H3 h3 tk3 hK3 hD3 at3
  obtain ⟨rfl, rfl⟩ := hK3
  (first | obtain rfl := hD3.ri | obtain ⟨_, rfl⟩ := hD3.ii | obtain rfl := hD3.ni | obtain rfl := hD3.mi | cases hD3)
  obtain ⟨m, news, F, Nw, hN, hH⟩ := at3
  obtain ⟨ob, mb, db⟩ := hH.get ha
  obtain ⟨_, n, rfl, dL⟩ := db.lst_inv
  have hln := dL.length
  refine list_put (s := { s with heap := h3, toks := tk3 }) F (newsOff Nw mb) (.head offL_ne) arrL h0 rfl (by omega) (by omega) (fun h' F' N' => ?_)
  exact ret .next .next N _ h' _ hr .next ⟨m, _, F', N', hN, hH.put ha (.lst _ (dL.set hD1 _))⟩
/-- xs[i] op= e, ints -/
theorem Ex.augL {K : Fl → List SV → Hp → Prop} {op : Operator} {o i e : PySem.Expr} {ap pos : Pos} {rest : List Stmt} {a : Addr} {vs : List SV} {k x y r : Int} (ho : EvP w d f N H o (.ref a)) (hi : EvP w d f N H i (.int k)) (he : EvP w d f N H e (.int y)) (ha : H a = some (.lst vs)) (h0 : 0 ≤ k) (h1' : k < 1000000) (hx : vs[k.toNat]? = some (.int x))
    (hop : ∀ (c : Cx) (s : Shared) (Q E : Value → Shared → Prop) t u, (∀ t' tk', Q (.int r t') { s with toks := tk' }) → wpAny (model PW w) (c.A f) (inplaceOp op (.int x t) (.int y u)) Q E s)
    (h : Ex w d f N (H.set a (.lst (vs.set k.toNat (.int r)))) rest K)
    (hm : ∀ ov iv new, augStore i ov iv new = (do holding [new, ov, iv] (setItem ov iv new); release [new, ov, iv] []; pure .next) := by intros; with_unfolding_all exact rfl) : Ex w d f N H (.AugAssign (.Subscript o i ap) op e pos :: rest) K := by
  refine Ex.cons ?_
  intro c s Q E ok pe at' ret
  refine wpAny_AugAssign_Subscript_any (ho c s _ E ok at' ?_) hm
  intro v2 y2 H2 h2 tk2 hK2 hD2 at2
  obtain ⟨rfl, rfl⟩ := hK2
  (first | obtain rfl := hD2.ri | obtain ⟨_, rfl⟩ := hD2.ii | obtain rfl := hD2.ni | obtain rfl := hD2.mi | cases hD2)
  refine hi c { s with heap := h2, toks := tk2 } _ E ok at2 ?_
  intro v3 y3 H3 h3 tk3 hK3 hD3 at3
  obtain ⟨rfl, rfl⟩ := hK3
  (first | obtain rfl := hD3.ri | obtain ⟨_, rfl⟩ := hD3.ii | obtain rfl := hD3.ni | obtain rfl := hD3.mi | cases hD3)
  have at3' := at3
  obtain ⟨m, news, F, Nw, hN, hH⟩ := at3
  obtain ⟨ob, mb, db⟩ := hH.get ha
  obtain ⟨xs, n, rfl, dL⟩ := db.lst_inv
  obtain ⟨yv, hy, hden⟩ := dL.get hx
  (first | obtain rfl := hden.ri | obtain ⟨_, rfl⟩ := hden.ii | obtain rfl := hden.ni | obtain rfl := hden.mi | cases hden)
  have hl : h3.IsList a xs.toArray := ⟨_, (Nw _ mb).1, rfl, _, rfl⟩
  refine wpAny_getItem_list (s := { s with heap := h3, toks := tk3 }) hl h0 (by omega) (by simpa using hy) ?_
  refine he c { s with heap := h3, toks := tk3 } _ E ok at3' ?_
  intro v4 y4 H4 h4 tk4 hK4 hD4 at4
  obtain ⟨rfl, rfl⟩ := hK4
  (first | obtain rfl := hD4.ri | obtain ⟨_, rfl⟩ := hD4.ii | obtain rfl := hD4.ni | obtain rfl := hD4.mi | cases hD4)
  refine hop c { s with heap := h4, toks := tk4 } _ E _ _ (fun t' tk' => ?_)
  obtain ⟨m2, news2, F2, Nw2, hN2, hH2⟩ := at4
  obtain ⟨ob2, mb2, db2⟩ := hH2.get ha
  obtain ⟨_, n2, rfl, dL2⟩ := db2.lst_inv
  have hln := dL2.length
  have hlt := (List.getElem?_eq_some_iff.mp hx).1
  refine list_put (s := { s with heap := h4, toks := tk' }) F2 (newsOff Nw2 mb2) (.head offL_ne) arrL h0 rfl (by omega) (by omega) (fun h' F' N' => ?_)
  exact ret .next .next N _ h' _ h .next ⟨m2, _, F', N', hN2, hH2.put ha (.lst _ (dL2.set (.int r t') _))⟩
end
end Mine
end
section
-- Q9
open PySem PySem.W PyProof.Rows
set_option Elab.async false
set_option maxRecDepth 100000
set_option linter.unusedVariables false
namespace Mine
section
variable {w : World} {d : Nat} {f : FI} {N : List SV} {H : Hp}
/-- a target takes a value -/
noncomputable def Asg (w : World) (d : Nat) (f : FI) (N : List SV) (H : Hp) (t : PySem.Expr) (v : SV) (N' : List SV) : Prop :=
  ∀ (c : Cx) (s : Shared) (y : Value) (Q : Unit → Shared → Prop) (E : Value → Shared → Prop), Cx.Ok w d f c → At w f c N H s.heap → Den v y → (∀ h' tk', At w f c N' H h' → Q () { s with heap := h', toks := tk' }) → wpAny (model PW w) (c.A f) (assign t (c.env f) y) Q E s
theorem Asg.name {i : Nat} {x : Str} {xp : Pos} {v : SV} (hx' : VarAt f.vars i x) : Asg w d f N H (.Name x xp) v (N.set i v) := by
  have hx := hx'.at'
  intro c s y Q E ok at' hd ret
  obtain ⟨m, news, F, Nw, hN, hH⟩ := at'
  exact wpAny_assign_Name (storeX_L F Nw (fun h' F' N' => ret h' _ ⟨_, news, F', N', hN.set ok.g.nd hx hd, hH⟩) ok.g.hk (ok.g.loc x (List.mem_of_getElem? hx)).1)
theorem Asg.pair {i j : Nat} {x y : Str} {xp yp tp : Pos} {k : Nat} {t : Addr} {a b : SV} (hx' : VarAt f.vars i x) (hy' : VarAt f.vars j y) (ht : H t = some (.tup [a, b])) : Asg w d f N H (.Tuple [.Name x xp, .Name y yp] k tp) (.ref t) ((N.set i a).set j b) := by
  have hx := hx'.at'
  have hy := hy'.at'
  intro c s z Q E ok at' hd ret
  (first | obtain rfl := hd.ri | obtain ⟨_, rfl⟩ := hd.ii | obtain rfl := hd.ni | obtain rfl := hd.mi | cases hd)
  obtain ⟨m, news, F, Nw, hN, hH⟩ := at'
  obtain ⟨ot, mt, dt⟩ := hH.get ht
  obtain ⟨_, n, rfl, dL⟩ := dt.tup_inv
  replace dL := dL.cons_inv
  obtain ⟨_, _, e_, d1, dL⟩ := dL
  cases e_
  replace dL := dL.cons_inv
  obtain ⟨_, _, e_, d2, dL⟩ := dL
  cases e_
  cases dL
  refine unpackN_ F Nw ⟨_, (Nw _ mt).1, rfl, _, rfl⟩ rfl rfl rfl (fun h' F' N' => ?_)
  refine assignInOrder_cons (wpAny_assign_Name (storeX_L F' N' (fun h2 F2 N2 => ?_) ok.g.hk (ok.g.loc x (List.mem_of_getElem? hx)).1))
  refine assignInOrder_cons (wpAny_assign_Name (storeX_L F2 N2 (fun h3 F3 N3 => ?_) ok.g.hk (ok.g.loc y (List.mem_of_getElem? hy)).1))
  refine assignInOrder_nil ?_
  exact ret h3 _ ⟨_, news, F3, N3, (hN.set ok.g.nd hx d1).set ok.g.nd hy d2, hH⟩
noncomputable def isSeq (o : SO) (vs : List SV) : Prop := o = .tup vs ∨ o = .lst vs
theorem Ex.forSeq {K : Fl → List SV → Hp → Prop} {t it : PySem.Expr} {pos : Pos} {body rest : List Stmt} {K1 : SV → Hp → Prop} (hit : Ev w d f N H it K1)
    (h : ∀ v H1, K1 v H1 → ∃ (a : Addr) (o : SO) (vs : List SV) (J : List SV → List SV → Hp → Prop), v = .ref a ∧ H1 a = some o ∧ isSeq o vs ∧ J vs N (H1.del a) ∧
      (∀ u r N' H', J (u :: r) N' H' → ∃ N2, Asg w d f N' H' t u N2 ∧ Ex w d f N2 H' body (fun fl N3 H3 => match fl with
        | .next => J r N3 H3
        | .cont => J r N3 H3
        | .brk => Ex w d f N3 H3 rest K
        | .ret v => K (.ret v) N3 H3)) ∧
      (∀ N' H', J [] N' H' → ∃ H2, (H2 = H' ∨ H2 = H'.set a o) ∧ Ex w d f N' H2 rest K))
    (hs : ∀ env y, foldedSetIterable it env y = pure y := by intros; with_unfolding_all exact rfl) : Ex w d f N H (.For t it body [] pos :: rest) K := by
  refine Ex.cons ?_
  intro c s Q E ok pe at' ret
  obtain ⟨m0, F0⟩ := at'.fr
  refine For_turns (h₀ := c.h₀) F0 (hit c s _ E ok at' ?_) (hs _) pe
  intro v y H1 h1 tk1 hK hD at1
  obtain ⟨a, o, vs, J, rfl, ha, hseq, h0, turn, exit⟩ := h v H1 hK
  (first | obtain rfl := hD.ri | obtain ⟨_, rfl⟩ := hD.ii | obtain rfl := hD.ni | obtain rfl := hD.mi | cases hD)
  obtain ⟨m, news, F, Nw, hN, hH⟩ := at1
  obtain ⟨lo, ml, dl⟩ := hH.get ha
  have hHd : HOK w ((a, lo) :: c.ex) (H1.del a) news := ⟨fun b o' e => hH.at' b o' (Hle.del b o' e), fun p hp => by
    rcases List.mem_cons.mp hp with rfl | hp
    · exact ⟨ml, Hp.del_eq⟩
    · refine ⟨(hH.xs p hp).1, ?_⟩
      unfold Hp.del
      by_cases hpa : p.1 = a
      · rw [if_pos hpa]
      · rw [if_neg hpa]; exact (hH.xs p hp).2⟩
  have haex : ∀ p ∈ c.ex, p.1 ≠ a := fun p hp q => by have := (hH.xs p hp).2; rw [q, ha] at this; cases this
  have core : ∀ (us : List Value) (cn : String), DenL vs us → ∀ I : Addr, (∀ p ∈ news, p.1 < I) → ItemsRest PW w (c.A f) E c.h₀ (c.env f) t body
      (fun y s' => Q y s') { s with heap := h1, toks := tk1 } [(I, cn)] [(a, lo)] (us.map .val) m news := by
    intro us cn hus I hI
    refine items_ind (fun us m news => ∃ vs N H, DenL vs us ∧ J vs N H ∧ NOK f N m ∧ HOK w ((a, lo) :: c.ex) H news ∧ H I = none ∧ ∀ p ∈ (a, lo) :: c.ex, p.1 ≠ I) ?_ ?_ us m news
      ⟨vs, N, _, hus, h0, hN, hHd, hHd.fresh hI, fun p hp => Nat.ne_of_lt (hI _ (hHd.xs p hp).1)⟩
    · rintro R u r m news ⟨vs, N, H, hvs, hJ, hN, hH, hIn, hIx⟩ hR h tk F
      cases hvs with
      | cons hu hvr =>
        rename_i sv vs'
        obtain ⟨N2, hasg, hb⟩ := turn _ _ _ _ hJ
        intro io hio N'
        have hHa : HOK w ((I, io) :: (a, lo) :: c.ex) H ((I, io) :: news) := ⟨fun b o' e => let ⟨ob, hm, dd⟩ := hH.at' b o' e; ⟨ob, List.mem_cons_of_mem _ hm, dd⟩, fun p hp => by
          rcases List.mem_cons.mp hp with rfl | hp
          · exact ⟨List.mem_cons_self, hIn⟩
          · exact ⟨List.mem_cons_of_mem _ (hH.xs p hp).1, (hH.xs p hp).2⟩⟩
        have ok' : Cx.Ok w d f { c with ex := (I, io) :: (a, lo) :: c.ex } := ⟨ok.B, ok.X, ok.T, ok.dl, ok.ul, ok.db, ok.g⟩
        refine hasg { c with ex := (I, io) :: (a, lo) :: c.ex } { s with heap := h, toks := tk } _ _ E ok' ⟨_, _, F, N', hN, hHa⟩ hu ?_
        intro h2 tk2 at2
        refine hb { c with ex := (I, io) :: (a, lo) :: c.ex } { s with heap := h2, toks := tk2 } _ E ok' pe at2 ?_
        intro fl y N3 H3 h3 tk3 hK3 hF at3
        have fin : J vs' N3 H3 → UnrEndW c.h₀ c.L { s with heap := h, toks := tk } [(I, io)] (fun m' n' => SubL [(a, lo)] n' ∧ R m' n') { s with heap := h3, toks := tk3 } := by
          intro hJ3
          obtain ⟨m4, news4, F4, N4, hN4, hH4⟩ := at3
          have hout := hH4.out (fun p hp => hIx p hp)
          refine ⟨h3, tk3, m4, offL I news4, rfl, F4, fun p hp => ?_, fun p hp q hq => ?_, ⟨(hout.xs _ List.mem_cons_self).1, trivial⟩, hR _ _ ⟨_, N3, H3, hvr, hJ3, hN4, hout, (hH4.xs _ List.mem_cons_self).2, hIx⟩⟩
          · rcases List.mem_cons.mp hp with rfl | hp
            · exact N4 _ (hH4.xs _ List.mem_cons_self).1
            · exact N4 _ (List.mem_filter.mp hp).1
          · rw [List.mem_singleton.mp hq]; exact offL_ne p hp
        have low : ∀ {N3 H3}, At w f { c with ex := (I, io) :: (a, lo) :: c.ex } N3 H3 h3 → At w f c N3 H3 h3 := by
          rintro N3 H3 ⟨m3, news3, F3, N3', hN3, hH3⟩
          exact ⟨m3, news3, F3, N3', hN3, ⟨hH3.at', fun p hp => hH3.xs p (List.mem_cons_of_mem _ (List.mem_cons_of_mem _ hp))⟩⟩
        cases hF with
        | next => exact fin hK3
        | cont => exact fin hK3
        | brk => exact ret .next .next N3 H3 h3 tk3 hK3 .next (low at3)
        | ret hd => exact ret (.ret _) (.ret _) N3 H3 h3 tk3 hK3 (.ret hd) (low at3)
    · rintro m news ⟨vs, N, H, hvs, hJ, hN, hH, hIn, hIx⟩ h tk F N'
      (first | obtain rfl := hvs.ri | obtain ⟨_, rfl⟩ := hvs.ii | obtain rfl := hvs.ni | obtain rfl := hvs.mi | cases hvs)
      have hHs : HOK w c.ex (H.set a o) news := ⟨fun b o' e => by
        unfold Hp.set at e
        by_cases hb : b = a
        · rw [if_pos hb] at e; cases e
          rw [hb]
          exact ⟨lo, (hH.xs _ List.mem_cons_self).1, dl⟩
        · rw [if_neg hb] at e; exact hH.at' b o' e, fun p hp => ⟨(hH.xs p (List.mem_cons_of_mem _ hp)).1, Hp.set_ne (haex p hp) (hH.xs p (List.mem_cons_of_mem _ hp)).2⟩⟩
      obtain ⟨H2, hH2, hex⟩ := exit N H hJ
      refine ret .next .next N H2 h tk hex .next ⟨m, news, F, N', hN, ?_⟩
      rcases hH2 with rfl | rfl
      · exact ⟨hH.at', fun p hp => hH.xs p (List.mem_cons_of_mem _ hp)⟩
      · exact hHs
  rcases hseq with rfl | rfl
  · cases dl with
    | tup n dL => exact iter_tupTurns (s := { s with heap := h1, toks := tk1 }) rfl F Nw ml rfl rfl (core _ _ dL)
  · cases dl with
    | lst n dL => exact iter_listTurns (s := { s with heap := h1, toks := tk1 }) rfl F Nw ml rfl rfl (core _ _ dL)
end
end Mine
end
section
-- Q10
open PySem PySem.W PyProof.Rows
set_option Elab.async false
set_option maxRecDepth 100000
set_option linter.unusedVariables false
namespace Mine
section
variable {w : World} {d : Nat} {f : FI} {N : List SV} {H : Hp}
theorem BName.abs : BName (Str.ofString "abs") (.builtin "abs") := ⟨fun P => by kernel_rfl, boot_abs, by decide, by decide⟩
theorem BName.int : BName (Str.ofString "int") (.type "int") := ⟨fun P => by kernel_rfl, PyProof.Rows.boot_int, by decide, by decide⟩
theorem Ev.abs {e : PySem.Expr} {z : Int} {np pos : Pos} (hk : f.cs.names.lookup (Str.ofString "abs") = some .globalImplicit) (he : EvP w d f N H e (.int z))
    (hm : ∀ env, eval (.Call (.Name (Str.ofString "abs") np) [e] [] pos) env = (do callWith pos (← eval (.Name (Str.ofString "abs") np) env) [] (backTo pos (starEach [e] env)) (backToKw pos (keywordEach [] env))) := by intros; with_unfolding_all exact rfl)
    (h1 : ∀ env, starEach [e] env = (false, eval e env) :: starEach [] env := by intros; exact starEach_plain rfl) : EvP w d f N H (.Call (.Name (Str.ofString "abs") np) [e] [] pos) (.int (if z < 0 then -z else z)) := by
  refine Ev.bcall1 BName.abs hk (EvL.cons he .nil h1) ?_ hm h1
  intro vs1 H1 hK c s Q E ys ok at' hD ret
  obtain ⟨rfl, rfl⟩ := hK
  replace hD := hD.cons_inv
  obtain ⟨_, _, e_, h1, h2⟩ := hD
  cases e_
  (first | obtain rfl := h1.ri | obtain ⟨_, rfl⟩ := h1.ii | obtain rfl := h1.ni | obtain rfl := h1.mi | cases h1); (first | obtain rfl := h2.ri | obtain ⟨_, rfl⟩ := h2.ii | obtain rfl := h2.ni | obtain rfl := h2.mi | cases h2)
  exact call_abs_int (fun u tk => ret _ _ H1 s.heap tk ⟨rfl, rfl⟩ (.int _ u) at')
theorem Ev.intc {e : PySem.Expr} {z : Int} {np pos : Pos} (hk : f.cs.names.lookup (Str.ofString "int") = some .globalImplicit) (he : EvP w d f N H e (.int z))
    (hm : ∀ env, eval (.Call (.Name (Str.ofString "int") np) [e] [] pos) env = (do callWith pos (← eval (.Name (Str.ofString "int") np) env) [] (backTo pos (starEach [e] env)) (backToKw pos (keywordEach [] env))) := by intros; with_unfolding_all exact rfl)
    (h1 : ∀ env, starEach [e] env = (false, eval e env) :: starEach [] env := by intros; exact starEach_plain rfl) : EvP w d f N H (.Call (.Name (Str.ofString "int") np) [e] [] pos) (.int z) := by
  intro c s Q E ok at' ret
  refine Call_ (Ev.bname BName.int.e BName.int.hv BName.int.hn hk BName.int.hb c s _ E ok at' ?_) (hm _)
  refine PyProof.Rows.callWith_type1 (EvL.cons he .nil h1 pos c s _ E ok at' ?_) (h1 _) rfl
  intro vs ys H2 h2' tk2 hK2 hD at2
  obtain ⟨rfl, rfl⟩ := hK2
  replace hD := hD.cons_inv
  obtain ⟨_, _, e_, hv, hn⟩ := hD
  cases e_
  (first | obtain rfl := hv.ri | obtain ⟨_, rfl⟩ := hv.ii | obtain rfl := hv.ni | obtain rfl := hv.mi | cases hv); (first | obtain rfl := hn.ri | obtain ⟨_, rfl⟩ := hn.ii | obtain rfl := hn.ni | obtain rfl := hn.mi | cases hn)
  exact call_int_int (ret _ _ H2 h2' tk2 ⟨rfl, rfl⟩ (.int _ _) at2)
theorem Ev.mod {l r : PySem.Expr} {a b : Int} {pos : Pos} (hl : EvP w d f N H l (.int a)) (hr : EvP w d f N H r (.int b)) (hb : b ≠ 0) : EvP w d f N H (.BinOp l .Mod r pos) (.int (a.fmod b)) :=
  hl.bin hr fun c s Q E x y hx hy ret => by (first | obtain rfl := hx.ri | obtain ⟨_, rfl⟩ := hx.ii | obtain rfl := hx.ni | obtain rfl := hx.mi | cases hx); (first | obtain rfl := hy.ri | obtain ⟨_, rfl⟩ := hy.ii | obtain rfl := hy.ni | obtain rfl := hy.mi | cases hy); exact mod_int' hb (ret _ _ (.int _ _))
end
end Mine
end
section
-- Q11
open PySem PySem.W PyProof.Rows
set_option Elab.async false
set_option maxRecDepth 100000
set_option linter.unusedVariables false
namespace Mine
section
variable {w : World} {d : Nat} {f : FI} {N : List SV} {H : Hp}
/-- a cell variable, read -/
theorem Ev.cell {x : Str} {ca : Addr} {v : SV} {pos : Pos} (hc : f.cl.lookup x = some ca) (hH : H ca = some (.cell v)) (hv : v ≠ .unb) (hk : f.cs.names.lookup x = some .cell) (hb : (x == ("__debug__" : Str)) = false) : EvP w d f N H (.Name x pos) v := by
  intro c s Q E ok at' ret
  have at2 := at'
  obtain ⟨m, news, F, Nw, hN, hH'⟩ := at'
  obtain ⟨ob, hm, hd⟩ := hH'.at' _ _ hH
  cases hd with
  | cellU _ => exact absurd rfl hv
  | cell e hd => exact nameX_C Nw hc hm e (ret v _ H s.heap s.toks ⟨rfl, rfl⟩ hd at2) ok.g.hk hk hb
theorem DenO.cellData {P : World} {u : SV} {ob : Obj} (h : DenO P (.cell u) ob) : ∃ v0, ob.data = .cell v0 := by
  cases h with
  | cellU e => exact ⟨_, e⟩
  | cell e _ => exact ⟨_, e⟩
theorem Ex.assignCell {K : Fl → List SV → Hp → Prop} {x : Str} {xp pos : Pos} {e : PySem.Expr} {rest : List Stmt} {K1 : SV → Hp → Prop} {ca : Addr} (he : Ev w d f N H e K1) (hc : f.cl.lookup x = some ca) (hk : f.cs.names.lookup x = some .cell) (hH : ∀ v H1, K1 v H1 → ∃ u, H1 ca = some (.cell u)) (h : ∀ v H1, K1 v H1 → Ex w d f N (H1.set ca (.cell v)) rest K)
    (hm : ∀ env, swapsWith e (some (.Name x xp)) pos.line env = pure false := by intros; with_unfolding_all exact rfl) : Ex w d f N H (.Assign [.Name x xp] e pos :: rest) K := by
  refine Ex.cons ?_
  intro c s Q E ok pe at' ret
  refine wpAny_Assign_Name (he c s _ E ok at' ?_) (hm _)
  intro v y H1 h1 tk1 hK hD at1
  obtain ⟨m, news, F, Nw, hN, hH1⟩ := at1
  obtain ⟨u, hu⟩ := hH v H1 hK
  obtain ⟨ob, mo, dO⟩ := hH1.get hu
  obtain ⟨v0, hv0⟩ := dO.cellData
  refine storeX_C (s := { s with heap := h1, toks := tk1 }) F (newsOff Nw mo) hc (.head offL_ne) hv0 (fun h' o' F' N' hd' => ?_) ok.g.hk hk
  exact ret .next .next N _ h' _ (h v H1 hK) .next ⟨m, _, F', N', hN, hH1.put hu (.cell hd' hD)⟩
/-! effectful operands -/
theorem Ev.binK {l r : PySem.Expr} {op : Operator} {pos : Pos} {K1 K : SV → Hp → Prop} {K2 : SV → SV → Hp → Prop} (hl : Ev w d f N H l K1) (hr : ∀ v H1, K1 v H1 → Ev w d f N H1 r (K2 v))
    (ho : ∀ v u H2, K2 v u H2 → ∀ (c : Cx) (s : Shared) (Q E : Value → Shared → Prop) x y, Cx.Ok w d f c → At w f c N H2 s.heap → Den v x → Den u y → (∀ t z H' h' tk', K t H' → Den t z → At w f c N H' h' → Q z { s with heap := h', toks := tk' }) → wpAny (model PW w) (c.A f) (binaryOp op x y) Q E s) : Ev w d f N H (.BinOp l op r pos) K := by
  intro c s Q E ok at' ret
  refine wpAny_BinOp (hl c s _ E ok at' ?_)
  intro v1 y1 H1 h1 tk1 hK hD1 at1
  refine hr v1 H1 hK c { s with heap := h1, toks := tk1 } _ E ok at1 ?_
  intro v2 y2 H2 h2 tk2 hK2 hD2 at2
  exact ho v1 v2 H2 hK2 c { s with heap := h2, toks := tk2 } Q E y1 y2 ok at2 hD1 hD2 fun t z H' h' tk' => ret t z H' h' tk'
theorem Ev.subK {l r : PySem.Expr} {pos : Pos} {a : Int} {K1 K : SV → Hp → Prop} (hl : EvP w d f N H l (.int a)) (hr : Ev w d f N H r K1) (h : ∀ v H1, K1 v H1 → ∃ b, v = .int b ∧ K (.int (a - b)) H1) : Ev w d f N H (.BinOp l .Sub r pos) K :=
  Ev.binK (K2 := fun v u H2 => v = .int a ∧ K1 u H2) hl (fun v H1 hv => by obtain ⟨rfl, rfl⟩ := hv; exact hr.mono fun v' H' k => ⟨rfl, k⟩) fun v u H2 hk c s Q E x y ok at' hx hy ret => by
    obtain ⟨rfl, hk⟩ := hk
    obtain ⟨b, rfl, hK⟩ := h u H2 hk
    (first | obtain rfl := hx.ri | obtain ⟨_, rfl⟩ := hx.ii | obtain rfl := hx.ni | obtain rfl := hx.mi | cases hx); (first | obtain rfl := hy.ri | obtain ⟨_, rfl⟩ := hy.ii | obtain rfl := hy.ni | obtain rfl := hy.mi | cases hy)
    exact sub_int (ret _ _ _ s.heap _ hK (.int _ _) at')
theorem Ev.addK {l r : PySem.Expr} {pos : Pos} {a : Int} {K1 K : SV → Hp → Prop} (hl : EvP w d f N H l (.int a)) (hr : Ev w d f N H r K1) (h : ∀ v H1, K1 v H1 → ∃ b, v = .int b ∧ K (.int (a + b)) H1) : Ev w d f N H (.BinOp l .Add r pos) K :=
  Ev.binK (K2 := fun v u H2 => v = .int a ∧ K1 u H2) hl (fun v H1 hv => by obtain ⟨rfl, rfl⟩ := hv; exact hr.mono fun v' H' k => ⟨rfl, k⟩) fun v u H2 hk c s Q E x y ok at' hx hy ret => by
    obtain ⟨rfl, hk⟩ := hk
    obtain ⟨b, rfl, hK⟩ := h u H2 hk
    (first | obtain rfl := hx.ri | obtain ⟨_, rfl⟩ := hx.ii | obtain rfl := hx.ni | obtain rfl := hx.mi | cases hx); (first | obtain rfl := hy.ri | obtain ⟨_, rfl⟩ := hy.ii | obtain rfl := hy.ni | obtain rfl := hy.mi | cases hy)
    exact add_int (ret _ _ _ s.heap _ hK (.int _ _) at')
theorem Ev.pow12 {k1 k2 : Nat} {p1 p2 pos : Pos} : EvP w d f N H (.BinOp (.Constant (.int 10) k1 p1) .Pow (.Constant (.int 12) k2 p2) pos) (.int 1000000000000) :=
  Ev.int.bin Ev.int fun c s Q E x y hx hy ret => by (first | obtain rfl := hx.ri | obtain ⟨_, rfl⟩ := hx.ii | obtain rfl := hx.ni | obtain rfl := hx.mi | cases hx); (first | obtain rfl := hy.ri | obtain ⟨_, rfl⟩ := hy.ii | obtain rfl := hy.ni | obtain rfl := hy.mi | cases hy); exact PySem.AutoIntOps.pow_4 (by decide) (by decide) (by decide) (by decide) (by decide) (ret _ _ (.int _ _))
/-! ranges of an effectful end -/
noncomputable def RangeK (w : World) (d : Nat) (f : FI) (N : List SV) (H : Hp) (it : PySem.Expr) (K1 : Int → Hp → Prop) : Prop :=
  ∀ (c : Cx) (s : Shared) (Q E : Value → Shared → Prop), Cx.Ok w d f c → At w f c N H s.heap →
    (∀ b H1 r h' tk' t u v, K1 b H1 → IsRange h' r 0 b 1 t u v → At w f c N H1 h' → Q (.ref r) { s with heap := h', toks := tk' }) → wpAny (model PW w) (c.A f) (eval it (c.env f)) Q E s
theorem RangeK.one {e : PySem.Expr} {K1 : SV → Hp → Prop} {K : Int → Hp → Prop} {np pos : Pos} (hk : f.cs.names.lookup (Str.ofString "range") = some .globalImplicit) (he : Ev w d f N H e K1) (h : ∀ v H1, K1 v H1 → ∃ b, v = .int b ∧ K b H1)
    (hm : ∀ env, eval (.Call (.Name (Str.ofString "range") np) [e] [] pos) env = (do callWith pos (← eval (.Name (Str.ofString "range") np) env) [] (backTo pos (starEach [e] env)) (backToKw pos (keywordEach [] env))) := by intros; with_unfolding_all exact rfl)
    (h1 : ∀ env, starEach [e] env = (false, eval e env) :: starEach [] env := by intros; exact starEach_plain rfl) : RangeK w d f N H (.Call (.Name (Str.ofString "range") np) [e] [] pos) K := by
  intro c s Q E ok at' ret
  refine Call_ (Ev.bname BName.range.e BName.range.hv BName.range.hn hk BName.range.hb c s _ E ok at' ?_) (hm _)
  refine PyProof.Rows.callWith_type1 (EvL.consK (K := fun vs H' => ∃ b, vs = [.int b] ∧ K b H') he (fun v H1 hv => EvL.nilK (by obtain ⟨b, rfl, hb⟩ := h v H1 hv; exact ⟨b, rfl, hb⟩)) h1 pos c _ _ E ok at' ?_) (h1 _) rfl
  intro vs ys H2 h2' tk2 hK2 hD at2
  obtain ⟨b, rfl, hb⟩ := hK2
  replace hD := hD.cons_inv
  obtain ⟨_, _, e_, hv, hn⟩ := hD
  cases e_
  (first | obtain rfl := hv.ri | obtain ⟨_, rfl⟩ := hv.ii | obtain rfl := hv.ni | obtain rfl := hv.mi | cases hv); (first | obtain rfl := hn.ri | obtain ⟨_, rfl⟩ := hn.ii | obtain rfl := hn.ni | obtain rfl := hn.mi | cases hn)
  obtain ⟨m, news, F, Nw, hN, hH⟩ := at2
  exact range1_rows (s := { s with heap := h2', toks := tk2 }) F Nw (fun h' tk t u v hR F' N' _ => ret b H2 _ h' tk t u v hb hR ⟨m, news, F', N', hN, hH⟩)
theorem Ex.forRangeK {K : Fl → List SV → Hp → Prop} {it : PySem.Expr} {x : Str} {xp pos : Pos} {body rest : List Stmt} {i0 : Nat} {K1 : Int → Hp → Prop} (hit : RangeK w d f N H it K1)
    (hx' : VarAt f.vars i0 x) (h : ∀ b H1, K1 b H1 → ∃ (n : Nat) (J : Nat → List SV → Hp → Prop), Builtin.Range.small 0 b 1 = true ∧ Builtin.Range.rangeSize 0 b 1 = (n : Int) ∧ J 0 N H1 ∧
      (∀ i N H, i < n → J i N H → Ex w d f (N.set i0 (.int (0 + (i : Int) * 1))) H body (fun fl N' H' => match fl with
      | .next => J (i + 1) N' H'
      | .cont => J (i + 1) N' H'
      | .brk => Ex w d f N' H' rest K
      | .ret v => K (.ret v) N' H')) ∧
      (∀ N H, J n N H → Ex w d f N H rest K))
    (hs : ∀ env y, foldedSetIterable it env y = pure y := by intros; with_unfolding_all exact rfl) : Ex w d f N H (.For (.Name x xp) it body [] pos :: rest) K := by
  have hx := hx'.at'
  refine Ex.cons ?_
  intro c s Q E ok pe at' ret
  have hl := ok.g.loc x (List.mem_of_getElem? hx)
  obtain ⟨m, F⟩ := at'.fr
  refine For_invVF (h₀ := c.h₀) F hl.1 (by show (f.cs.kind == .class || (f.cs.kind == .module && _)) = false; rw [ok.g.hk]; rfl) (hit c s _ E ok at' ?_) (hs _) pe
  intro b H1 r h' tk' t u v hKb hR at1
  obtain ⟨n, J, hsmall, hn, h0, turn, exit⟩ := h b H1 hKb
  obtain ⟨m1, news1, F1, N1, hN1, hH1⟩ := at1
  refine krs_iter (s := { s with heap := h', toks := tk' }) rfl hR hsmall hn F1 N1 (fun I hI => ?_)
  refine krs_ind (fun i m news => ∃ N H, J i N H ∧ NOK f N m ∧ HOK w c.ex H news ∧ H I = none ∧ ∀ p ∈ c.ex, p.1 ≠ I) ?_ ?_ n 0 m1 news1 (Nat.add_zero n) ⟨N, H1, h0, hN1, hH1, hH1.fresh hI, fun p hp => Nat.ne_of_lt (hI _ (hH1.xs p hp).1)⟩
  · rintro i m news hi ⟨N, H, hJ, hN, hH, hIn, hIx⟩ t h tk F N' R hR'
    have hHa : HOK w ((I, krsIt (0 + ((i + 1 : Nat) : Int) * 1) ((n : Int) - ((i + 1 : Nat) : Int)) 1) :: c.ex) H ((I, krsIt (0 + ((i + 1 : Nat) : Int) * 1) ((n : Int) - ((i + 1 : Nat) : Int)) 1) :: news) :=
      ⟨fun a o e => let ⟨ob, hm, dd⟩ := hH.at' a o e; ⟨ob, List.mem_cons_of_mem _ hm, dd⟩, fun p hp => by
        rcases List.mem_cons.mp hp with rfl | hp
        · exact ⟨List.mem_cons_self, hIn⟩
        · exact ⟨List.mem_cons_of_mem _ (hH.xs p hp).1, (hH.xs p hp).2⟩⟩
    refine turn i N H hi hJ { c with ex := (I, krsIt (0 + ((i + 1 : Nat) : Int) * 1) ((n : Int) - ((i + 1 : Nat) : Int)) 1) :: c.ex } { s with heap := h, toks := tk } _ E ⟨ok.B, ok.X, ok.T, ok.dl, ok.ul, ok.db, ok.g⟩ pe ⟨_, _, F, N', hN.set ok.g.nd hx (.int _ t), hHa⟩ ?_
    intro fl y N2 H2 h2 tk2 hK hF at2
    have fin : J (i + 1) N2 H2 → UnrEnd c.h₀ c.L { s with heap := h, toks := tk } I (krsIt (0 + ((i + 1 : Nat) : Int) * 1) ((n : Int) - ((i + 1 : Nat) : Int)) 1) R { s with heap := h2, toks := tk2 } := by
      intro hJ2
      obtain ⟨m3, news3, F3, N3, hN3, hH3⟩ := at2
      refine UnrEnd.intro (s₁ := { s with heap := h, toks := tk }) F3 N3 (offL I news3) (fun p hp => ?_) offL_ne (hR' _ _ ⟨N2, H2, hJ2, hN3, hH3.out (fun p hp => hIx p hp), (hH3.xs _ List.mem_cons_self).2, hIx⟩)
      rcases List.mem_cons.mp hp with rfl | hp
      · exact (hH3.xs _ List.mem_cons_self).1
      · exact (List.mem_filter.mp hp).1
    have low : ∀ {N2 H2}, At w f { c with ex := (I, krsIt (0 + ((i + 1 : Nat) : Int) * 1) ((n : Int) - ((i + 1 : Nat) : Int)) 1) :: c.ex } N2 H2 h2 → At w f c N2 H2 h2 := by
      rintro N2 H2 ⟨m3, news3, F3, N3, hN3, hH3⟩
      exact ⟨m3, news3, F3, N3, hN3, ⟨hH3.at', fun p hp => hH3.xs p (List.mem_cons_of_mem _ hp)⟩⟩
    cases hF with
    | next => exact fin hK
    | cont => exact fin hK
    | brk => exact ret .next .next N2 H2 h2 tk2 hK .next (low at2)
    | ret hd => exact ret (.ret _) (.ret _) N2 H2 h2 tk2 hK (.ret hd) (low at2)
  · rintro m news ⟨N, H, hJ, hN, hH, _, _⟩ h tk F N'
    exact ret .next .next N H h tk (exit N H hJ) .next ⟨m, news, F, N', hN, hH⟩
end
end Mine
end
section
-- Q12
open PySem PySem.W PyProof.Rows
set_option Elab.async false
set_option maxRecDepth 100000
set_option linter.unusedVariables false
namespace Mine
section
variable {w : World} {d : Nat} {f : FI} {N : List SV} {H : Hp}
theorem BName.list : BName (Str.ofString "list") (.type "list") := ⟨fun P => by rfl, boot_list, by decide, by decide⟩
/-- list(xs) -/
theorem Ev.listOfK {e : PySem.Expr} {K1 K : SV → Hp → Prop} {np pos : Pos} (hk : f.cs.names.lookup (Str.ofString "list") = some .globalImplicit) (he : Ev w d f N H e K1)
    (h : ∀ v H1, K1 v H1 → ∃ a vs, v = .ref a ∧ H1 a = some (.lst vs) ∧ vs.length ≤ 100000 ∧ ∀ D, H1 D = none → K (.ref D) (H1.set D (.lst vs)))
    (hm : ∀ env, eval (.Call (.Name (Str.ofString "list") np) [e] [] pos) env = (do callWith pos (← eval (.Name (Str.ofString "list") np) env) [] (backTo pos (starEach [e] env)) (backToKw pos (keywordEach [] env))) := by intros; with_unfolding_all exact rfl)
    (h1 : ∀ env, starEach [e] env = (false, eval e env) :: starEach [] env := by intros; exact starEach_plain rfl) : Ev w d f N H (.Call (.Name (Str.ofString "list") np) [e] [] pos) K := by
  intro c s Q E ok at' ret
  refine Call_ (Ev.bname BName.list.e BName.list.hv BName.list.hn hk BName.list.hb c s _ E ok at' ?_) (hm _)
  refine PyProof.Rows.callWith_type1 (EvL.consK (K := fun us H' => ∃ v, us = [v] ∧ K1 v H') he (fun v H1 hv => EvL.nilK ⟨v, rfl, hv⟩) h1 pos c _ _ E ok at' ?_) (h1 _) rfl
  intro us ys H2 h2' tk2 hK2 hD at2
  obtain ⟨v, rfl, hv⟩ := hK2
  obtain ⟨a, vs, rfl, ha, hz, hK⟩ := h v H2 hv
  replace hD := hD.cons_inv
  obtain ⟨_, _, e_, hv, hn⟩ := hD
  cases e_
  (first | obtain rfl := hv.ri | obtain ⟨_, rfl⟩ := hv.ii | obtain rfl := hv.ni | obtain rfl := hv.mi | cases hv); (first | obtain rfl := hn.ri | obtain ⟨_, rfl⟩ := hn.ii | obtain rfl := hn.ni | obtain rfl := hn.mi | cases hn)
  obtain ⟨m, news, F, Nw, hN, hH⟩ := at2
  obtain ⟨oa, ma, da⟩ := hH.get ha
  obtain ⟨xs, n, rfl, dL⟩ := da.lst_inv
  refine kup_listOf (s := { s with heap := h2', toks := tk2 }) F Nw ma (zs := xs) rfl (fun D k h' F' N' hl => ?_) (by have := dL.length; simp only [sizeLine]; simp; omega)
  exact ret _ _ _ h' _ (hK D (hH.fresh hl)) (.ref D) ⟨m, _, F', N', hN, hH.new hl (.lst _ dL)⟩
end
end Mine
end
section
-- Q13
open PySem PySem.W PyProof.Rows PyProof.Rows.LCg
set_option Elab.async false
set_option maxRecDepth 100000
set_option linter.unusedVariables false
namespace Mine
section
variable {w : World} {d : Nat} {f : FI} {N : List SV} {H : Hp}
/-- an element of a comprehension, in the comprehension's own scope -/
noncomputable def EvC (w : World) (d : Nat) (f : FI) (N : List SV) (H : Hp) (scope : Scope) (cl : List (Str × Addr)) (x : Str) (v : SV) (elt : PySem.Expr) (K : SV → Hp → Prop) : Prop :=
  ∀ (c : Cx) (s : Shared) (Q E : Value → Shared → Prop) (C : Addr) (oC : Obj) (m m₂ : Str → Option Value) (y : Value) (news : List (Addr × Obj)), Cx.Ok w d f c → (C, oC) ∈ c.ex → NsObj oC m₂ → m₂ x = some y → Den v y →
    Fr c.h₀ c.L s.heap m → News c.h₀ c.L s.heap news → NOK f N m → HOK w c.ex H news →
    (∀ u z H' news' h' tk', K u H' → Den u z → Fr c.h₀ c.L h' m → News c.h₀ c.L h' news' → HOK w c.ex H' news' → Q z { s with heap := h', toks := tk' }) → wpAny (model PW w) (c.A f) (eval elt (compEnvC scope cl C (c.env f))) Q E s
/-- an expression that keeps the names as they are -/
noncomputable def EvM (w : World) (d : Nat) (f : FI) (N : List SV) (H : Hp) (e : PySem.Expr) (K : SV → Hp → Prop) : Prop :=
  ∀ (c : Cx) (s : Shared) (Q E : Value → Shared → Prop) (m : Str → Option Value) (news : List (Addr × Obj)), Cx.Ok w d f c → Fr c.h₀ c.L s.heap m → News c.h₀ c.L s.heap news → NOK f N m → HOK w c.ex H news →
    (∀ u z H' news' h' tk', K u H' → Den u z → Fr c.h₀ c.L h' m → News c.h₀ c.L h' news' → HOK w c.ex H' news' → Q z { s with heap := h', toks := tk' }) → wpAny (model PW w) (c.A f) (eval e (c.env f)) Q E s
theorem EvM.loc {i : Nat} {x : Str} {v : SV} {pos : Pos} (hx' : VarAt f.vars i x) (hv : N[i]? = some v) (hn : v ≠ .unb) : EvM w d f N H (.Name x pos) (fun u H' => u = v ∧ H' = H) := by
  intro c s Q E m news ok F Nw hN hH ret
  have hx := hx'.at'
  obtain ⟨y, hy, hd⟩ := hN i x v hx hv hn
  have hl := ok.g.loc x (List.mem_of_getElem? hx)
  exact nameX_L F hy (ret v y H news s.heap s.toks ⟨rfl, rfl⟩ hd F Nw hH) ok.g.hk hl.1 hl.2
theorem EvM.cat {l r : PySem.Expr} {pos : Pos} {K1 K : SV → Hp → Prop} {K2 : SV → SV → Hp → Prop} (hl : EvM w d f N H l K1) (hr : ∀ v H1, K1 v H1 → EvM w d f N H1 r (K2 v))
    (h : ∀ v u H2, K2 v u H2 → ∃ a b vs ws, v = .ref a ∧ u = .ref b ∧ H2 a = some (.lst vs) ∧ H2 b = some (.lst ws) ∧ vs.length + ws.length ≤ 100000 ∧ ∀ D, H2 D = none → K (.ref D) (H2.set D (.lst (vs ++ ws)))) : EvM w d f N H (.BinOp l .Add r pos) K := by
  intro c s Q E m news ok F Nw hN hH ret
  refine wpAny_BinOp (hl c s _ E m news ok F Nw hN hH ?_)
  intro v1 y1 H1 news1 h1 tk1 hK hD1 F1 N1 hH1
  refine hr v1 H1 hK c { s with heap := h1, toks := tk1 } _ E m news1 ok F1 N1 hN hH1 ?_
  intro v2 y2 H2 news2 h2 tk2 hK2 hD2 F2 N2 hH2
  obtain ⟨a, b, vs, ws, rfl, rfl, ha, hb, hz, hK⟩ := h v1 v2 H2 hK2
  (first | obtain rfl := hD1.ri | obtain ⟨_, rfl⟩ := hD1.ii | obtain rfl := hD1.ni | obtain rfl := hD1.mi | cases hD1); (first | obtain rfl := hD2.ri | obtain ⟨_, rfl⟩ := hD2.ii | obtain rfl := hD2.ni | obtain rfl := hD2.mi | cases hD2)
  obtain ⟨oa, ma, da⟩ := hH2.get ha
  obtain ⟨ob, mb, db⟩ := hH2.get hb
  obtain ⟨_, n, rfl, dL⟩ := da.lst_inv
  cases db with
  | lst n' dL' =>
    rename_i xs ys
    have hl : ∀ p ∈ news2, p.1 < h2.objs.size := fun p hp => Heap.lt_size (N2 p hp).1
    refine add_lists (s := { s with heap := h2, toks := tk2 }) F2 N2 ⟨_, (N2 _ ma).1, rfl, _, rfl⟩ ⟨_, (N2 _ mb).1, rfl, _, rfl⟩ (fun h' F' N' => ?_) (by have := dL.length; have := dL'.length; simp only [sizeLine]; omega)
    exact ret _ _ _ _ h' _ (hK _ (hH2.fresh hl)) (.ref _) F' N' (hH2.new hl (.lst 0 (dL.append dL')))
theorem HOK.newNe {P : World} {ex : List (Addr × Obj)} {news : List (Addr × Obj)} (h : HOK P ex H news) {D : Addr} {o : SO} {ob : Obj} (hl : ∀ p ∈ news, p.1 ≠ D) (d : DenO P o ob) : HOK P ex (H.set D o) ((D, ob) :: news) := by
  refine ⟨fun a o' e => ?_, fun p hp => ?_⟩
  · unfold Hp.set at e
    by_cases ha : a = D
    · subst ha
      rw [if_pos rfl] at e
      cases e
      exact ⟨ob, List.mem_cons_self, d⟩
    · rw [if_neg ha] at e
      obtain ⟨ob', hm, d'⟩ := h.at' a o' e
      exact ⟨ob', List.mem_cons_of_mem _ hm, d'⟩
  · obtain ⟨h1, h2⟩ := h.xs p hp
    exact ⟨List.mem_cons_of_mem _ h1, Hp.set_ne (hl _ h1) h2⟩
theorem HOK.noneOf {P : World} {ex : List (Addr × Obj)} {news : List (Addr × Obj)} (h : HOK P ex H news) {D : Addr} (hl : ∀ p ∈ news, p.1 ≠ D) : H D = none := by
  cases e : H D with
  | none => rfl
  | some o =>
    obtain ⟨ob, hm, _⟩ := h.at' D o e
    exact absurd rfl (hl _ hm)
theorem HOK.asideNe {P : World} {ex : List (Addr × Obj)} {news : List (Addr × Obj)} (h : HOK P ex H news) {D : Addr} {ob : Obj} (hl : ∀ p ∈ news, p.1 ≠ D) : HOK P ((D, ob) :: ex) H ((D, ob) :: news) :=
  ⟨fun b o' e => let ⟨ob, hm, dd⟩ := h.at' b o' e; ⟨ob, List.mem_cons_of_mem _ hm, dd⟩, fun p hp => by
    rcases List.mem_cons.mp hp with rfl | hp
    · exact ⟨List.mem_cons_self, h.noneOf hl⟩
    · exact ⟨List.mem_cons_of_mem _ (h.xs p hp).1, (h.xs p hp).2⟩⟩
theorem Ev.listComp {elt iter : PySem.Expr} {x : Str} {px pos : Pos} {scope : Scope} {cl : List (Str × Addr)} {K1 K : SV → Hp → Prop} (hi : EvM w d f N H iter K1)
    (h : ∀ v H1, K1 v H1 → ∃ (a : Addr) (vs : List SV) (J : List SV → List SV → Hp → Prop), v = .ref a ∧ H1 a = some (.lst vs) ∧ vs.length ≤ 100000 ∧ J [] vs (H1.del a) ∧
      (∀ ys u r H', J ys (u :: r) H' → EvC w d f N H' scope cl x u elt (fun z H2 => J (ys ++ [z]) r H2)) ∧
      (∀ ys H', J ys [] H' → H' a = none → ∀ D, H' D = none → D ≠ a → K (.ref D) ((H'.set a (.lst vs)).set D (.lst ys))))
    (hclos : ∀ c : Cx, closureFor scope (c.env f) = pure cl) (hcell : ∀ y ∈ scope.names, y.2 ≠ .cell) (hkind : scope.kind = .function)
    (hnames : ∀ y ∈ scope.names, y.2 = .local → scope.names.lookup y.1 = some .local) (hx : scope.names.lookup x = some .local)
    (hs : ∀ env y, foldedSetIterable iter env y = pure y := by intros; with_unfolding_all exact rfl) : Ev w d f N H (.ListComp elt [⟨.Name x px, iter, [], 0⟩] scope pos) K := by
  intro c s Q E ok at' ret
  obtain ⟨m, news0, F00, Nw00, hN0, hH00⟩ := at'
  refine ListComp_U (h₀ := c.h₀) (L := c.L) (m := m) F00 (hclos c) hcell hkind hnames hx (hi c s _ E m news0 ok F00 Nw00 hN0 hH00 ?_) (hs _)
  intro v y H1 news1 h1 tk1 hK hD F1 N1 hH1
  obtain ⟨a, vs, J, rfl, ha, hz, h0, turn, fin⟩ := h v H1 hK
  (first | obtain rfl := hD.ri | obtain ⟨_, rfl⟩ := hD.ii | obtain rfl := hD.ni | obtain rfl := hD.mi | cases hD)
  obtain ⟨lo, ml, dl⟩ := hH1.get ha
  obtain ⟨xs, n, rfl, dL⟩ := dl.lst_inv
  have hHd : HOK w ((a, listOf xs.toArray n) :: c.ex) (H1.del a) news1 := ⟨fun b o' e => hH1.at' b o' (Hle.del b o' e), fun p hp => by
    rcases List.mem_cons.mp hp with rfl | hp
    · exact ⟨ml, Hp.del_eq⟩
    · refine ⟨(hH1.xs p hp).1, ?_⟩
      unfold Hp.del
      by_cases hpa : p.1 = a
      · rw [if_pos hpa]
      · rw [if_neg hpa]; exact (hH1.xs p hp).2⟩
  have haex : ∀ p ∈ c.ex, p.1 ≠ a := fun p hp q => by have := (hH1.xs p hp).2; rw [q, ha] at this; cases this
  have hlen := dL.length
  refine CompSrc.ledger (s₁ := { s with heap := h1, toks := tk1 }) (k := n) rfl F1 N1 ml (by simp only [sizeLine, List.size_toArray]; omega) (fun g => ?_)
  have loop : ∀ (k i : Nat) (ys : List Value) (news : List (Addr × Obj)) (svs : List SV) (H' : Hp), k + i = vs.length → DenL svs ys → J svs (vs.drop i) H' → HOK w ((a, listOf xs.toArray n) :: c.ex) H' news →
      CompRest PW w (c.A f) c.h₀ c.L m (c.env f) elt x scope cl { s with heap := g, toks := tk1 } (SrcAt c.h₀ a xs.toArray) (fun i v => xs.toArray[i]? = some v) (FinE c.h₀ c.L m { s with heap := g, toks := tk1 } Q) k i ys news := by
    intro k
    induction k with
    | zero =>
      intro i ys news svs H' hk hys hJ hHs
      refine CompRest.zero ?_
      intro D h' tk F' N' o1
      have hne : ∀ p ∈ news, p.1 ≠ D := by
        clear hHs hJ N'
        induction news with
        | nil => simp
        | cons q r ih =>
          intro p hp
          rcases List.mem_cons.mp hp with rfl | hp
          · exact o1.1
          · exact ih o1.2 p hp
      rw [List.drop_eq_nil_of_le (by omega)] at hJ
      have hHs' : HOK w c.ex (H'.set a (.lst vs)) news := ⟨fun b o' e => by
        unfold Hp.set at e
        by_cases hb : b = a
        · rw [if_pos hb] at e; cases e
          rw [hb]
          exact ⟨_, (hHs.xs _ List.mem_cons_self).1, .lst n dL⟩
        · rw [if_neg hb] at e; exact hHs.at' b o' e, fun p hp => ⟨(hHs.xs p (List.mem_cons_of_mem _ hp)).1, Hp.set_ne (haex p hp) (hHs.xs p (List.mem_cons_of_mem _ hp)).2⟩⟩
      exact ret (.ref D) (.ref D) _ h' tk (fin svs H' hJ (hHs.xs _ List.mem_cons_self).2 D (hHs.noneOf hne) (fun q => hne _ (hHs.xs _ List.mem_cons_self).1 q.symm)) (.ref D) ⟨m, _, F', N', hN0, hHs'.newNe hne (.lst _ hys)⟩
    | succ k ih =>
      intro i ys news svs H' hk hys hJ hHs
      refine CompRest.succ ?_
      intro v I oI C oC D m₂ h' tk E' hP hns hm2 F' N' o3 hne3
      have off := o3.mem
      have hi' : i < vs.length := by omega
      rw [List.drop_eq_getElem_cons hi'] at hJ
      have hv : Den vs[i] v := by
        obtain ⟨z, hz, hd⟩ := dL.get (List.getElem?_eq_getElem hi')
        have : xs[i]? = some v := by simpa using hP
        rw [this] at hz
        cases hz
        exact hd
      have hD1 := hHs.asideNe (ob := lst ys) (fun p hp => (off p hp).2.2)
      have hC1 := hD1.asideNe (D := C) (ob := oC) (fun p hp => by
        rcases List.mem_cons.mp hp with rfl | hp
        · exact Ne.symm hne3.2.2
        · exact (off p hp).2.1)
      have hI1 := hC1.asideNe (D := I) (ob := oI) (fun p hp => by
        rcases List.mem_cons.mp hp with rfl | hp
        · exact Ne.symm hne3.1
        · rcases List.mem_cons.mp hp with rfl | hp
          · exact Ne.symm hne3.2.1
          · exact (off p hp).1)
      have hexn : ∀ p ∈ (a, listOf xs.toArray n) :: c.ex, p ∈ news := fun p hp => (hHs.xs p hp).1
      refine turn svs vs[i] (vs.drop (i + 1)) H' hJ { c with ex := (I, oI) :: (C, oC) :: (D, lst ys) :: (a, listOf xs.toArray n) :: c.ex } { s with heap := h', toks := tk } _ E' C oC m m₂ v _ ⟨ok.B, ok.X, ok.T, ok.dl, ok.ul, ok.db, ok.g⟩ (List.mem_cons_of_mem _ List.mem_cons_self) hns hm2 hv F' N' hN0 hI1 ?_
      intro u z H2 news2 h2 tk2 hJ2 hDz F2 N2 hH2
      have e1 := hH2.out (fun p hp => by
        rcases List.mem_cons.mp hp with rfl | hp
        · exact Ne.symm hne3.1
        · rcases List.mem_cons.mp hp with rfl | hp
          · exact Ne.symm hne3.2.1
          · exact (off p (hexn p hp)).1)
      have e2 := e1.out (fun p hp => by
        rcases List.mem_cons.mp hp with rfl | hp
        · exact Ne.symm hne3.2.2
        · exact (off p (hexn p hp)).2.1)
      have e3 := e2.out (fun p hp => (off p (hexn p hp)).2.2)
      have sub : ∀ p ∈ offL D (offL C (offL I news2)), p ∈ news2 ∧ p.1 ≠ I ∧ p.1 ≠ C ∧ p.1 ≠ D := fun p hp => by
        have q1 := offL_ne p hp
        have q2 := (List.mem_filter.mp hp).1
        have q3 := offL_ne p q2
        have q4 := (List.mem_filter.mp q2).1
        exact ⟨(List.mem_filter.mp q4).1, offL_ne p q4, q3, q1⟩
      refine CompEnd.intro (s₁ := { s with heap := h', toks := tk }) F2 N2 (offL D (offL C (offL I news2))) (fun p hp => ?_) (Off3.of fun p hp => (sub p hp).2) ?_ (ih (i + 1) _ _ (svs ++ [u]) H2 (by omega) (hys.append (.cons hDz .nil)) hJ2 e3)
      · rcases List.mem_cons.mp hp with rfl | hp
        · exact (hH2.xs _ List.mem_cons_self).1
        · rcases List.mem_cons.mp hp with rfl | hp
          · exact (hH2.xs _ (List.mem_cons_of_mem _ List.mem_cons_self)).1
          · rcases List.mem_cons.mp hp with rfl | hp
            · exact (hH2.xs _ (List.mem_cons_of_mem _ (List.mem_cons_of_mem _ List.mem_cons_self))).1
            · exact (sub p hp).1
      · exact .inr ⟨_, (e3.xs _ List.mem_cons_self).1, rfl, _, rfl⟩
  have := loop xs.toArray.size 0 [] news1 [] (H1.del a) (by simp; omega) .nil (by simpa using h0) hHd
  exact this
end
end Mine
end
section
-- Q14
open PySem PySem.W PyProof.Rows PyProof.Rows.LCg PySem.Calls
set_option Elab.async false
set_option maxRecDepth 100000
set_option linter.unusedVariables false
namespace Mine
section
variable {w : World} {d : Nat} {f : FI} {N : List SV} {H : Hp} {scope : Scope} {cl : List (Str × Addr)}
/-- what the comprehension's scope says of a name -/
noncomputable def KindC (f : FI) (scope : Scope) (cl : List (Str × Addr)) (x : Str) (k : NameKind) : Prop := ∀ (C : Addr) (c : Cx), (compEnvC scope cl C (c.env f)).kindOf x = some k ∧ (compEnvC scope cl C (c.env f)).scope.kind = .function
/-- `list(run)` -/
theorem EvC.listOf {x : Str} {p1 p2 pos : Pos} {a : Addr} {vs : List SV} (hx : KindC f scope cl x .local) (hl : KindC f scope cl (Str.ofString "list") .globalImplicit) (hb : (x == ("__debug__" : Str)) = false) (ha : H a = some (.lst vs)) (hz : vs.length ≤ 100000)
    (hm : ∀ env, eval (.Call (.Name (Str.ofString "list") p1) [.Name x p2] [] pos) env = (do callWith pos (← eval (.Name (Str.ofString "list") p1) env) [] (backTo pos (starEach [.Name x p2] env)) (backToKw pos (keywordEach [] env))) := by intros; with_unfolding_all exact rfl)
    (h1 : ∀ env, starEach [.Name x p2] env = (false, eval (.Name x p2) env) :: starEach [] env := by intros; exact starEach_plain rfl) :
    EvC w d f N H scope cl x (.ref a) (.Call (.Name (Str.ofString "list") p1) [.Name x p2] [] pos) (fun z H2 => ∃ D, z = .ref D ∧ H D = none ∧ H2 = H.set D (.lst vs)) := by
  intro c s Q E C oC m m₂ y news ok hC hns hmx hy F Nw hN hH ret
  (first | obtain rfl := hy.ri | obtain ⟨_, rfl⟩ := hy.ii | obtain rfl := hy.ni | obtain rfl := hy.mi | cases hy)
  obtain ⟨k1, k2⟩ := hl C c
  obtain ⟨k3, k4⟩ := hx C c
  have T := topRead_of ok.T
  refine Call_ (Name_function_global k2 k1 (loadGlobal_builtin (env := compEnvC scope cl C (c.env f)) (T.g.keeps F.keep) (mg_none_of ok.X T.g (BName.list.e _)) (T.b.keeps F.keep) ((T.builtins _ BName.list.hn).trans BName.list.hv) ?_) BName.list.hb) (hm _)
  refine PyProof.Rows.callWith_type1 (args_cons (wpAny_Name (wpAny_loadName_local k4 k3 (hns.ns (Nw _ (hH.xs _ hC).1).1) hmx ?_) hb) (h1 _)) (h1 _) rfl
  refine args_nil ?_
  obtain ⟨oa, ma, da⟩ := hH.get ha
  obtain ⟨xs, n, rfl, dL⟩ := da.lst_inv
  refine kup_listOf F Nw ma (zs := xs) rfl (fun D k h' F' N' hl => ?_) (by have := dL.length; simp only [sizeLine]; simp; omega)
  exact ret (.ref D) _ _ _ h' _ ⟨D, rfl, hH.fresh hl, rfl⟩ (.ref D) F' N' (hH.new hl (.lst _ dL))
/-- `(levels[index], index)` -/
theorem EvC.levels {x lx : Str} {p1 p2 p3 p4 pos : Pos} {k0 : Nat} {ca la : Addr} {vs : List SV} {i z : Int} (hx : KindC f scope cl x .local) (hl : KindC f scope cl lx .cell) (hb : (x == ("__debug__" : Str)) = false) (hb' : (lx == ("__debug__" : Str)) = false)
    (hc : cl.lookup lx = some ca) (hca : H ca = some (.cell (.ref la))) (ha : H la = some (.lst vs)) (h0 : 0 ≤ i) (hi : i < 1000000) (hz : vs[i.toNat]? = some (.int z)) 
    (hm : ∀ a k u, subscripted (.Name x p2) false (.ref a) (.int k u) = operate [.ref a, .int k u] (getItem (.ref a) (.int k u)) := by intros; with_unfolding_all exact rfl)
    (h1 : ∀ env, starEach [.Subscript (.Name lx p1) (.Name x p2) p3, .Name x p4] env = (false, eval (.Subscript (.Name lx p1) (.Name x p2) p3) env) :: starEach [.Name x p4] env := by intros; exact starEach_plain rfl)
    (h2 : ∀ env, starEach [.Name x p4] env = (false, eval (.Name x p4) env) :: starEach [] env := by intros; exact starEach_plain rfl) :
    EvC w d f N H scope cl x (.int i) (.Tuple [.Subscript (.Name lx p1) (.Name x p2) p3, .Name x p4] k0 pos) (fun t H2 => ∃ D, t = .ref D ∧ H D = none ∧ H2 = H.set D (.tup [.int z, .int i])) := by
  intro c s Q E C oC m m₂ y news ok hC hns hmx hy F Nw hN hH ret
  (first | obtain rfl := hy.ri | obtain ⟨_, rfl⟩ := hy.ii | obtain rfl := hy.ni | obtain rfl := hy.mi | cases hy)
  rename_i tk0
  obtain ⟨k1, k2⟩ := hl C c
  obtain ⟨k3, k4⟩ := hx C c
  have nsC := hns.ns (Nw _ (hH.xs _ hC).1).1
  obtain ⟨oc, mc, dc⟩ := hH.get hca
  obtain ⟨oa, ma, da⟩ := hH.get ha
  cases dc with
  | cell ec dv =>
    cases dv
    obtain ⟨xs, n, rfl, dL⟩ := da.lst_inv
    obtain ⟨y, hy, hden⟩ := dL.get hz
    (first | obtain rfl := hden.ri | obtain ⟨_, rfl⟩ := hden.ii | obtain rfl := hden.ni | obtain rfl := hden.mi | cases hden)
    have hl' : s.heap.IsList la xs.toArray := ⟨_, (Nw _ ma).1, rfl, _, rfl⟩
    refine Tuple_ ?_
    refine args_cons (Subscript_ (wpAny_Name (wpAny_loadName_cell k2 k1 hc ⟨_, (Nw _ mc).1, ec⟩ (wpAny_Name (wpAny_loadName_local k4 k3 nsC hmx ?_) hb)) hb')) (h1 _)
    refine tail_any hl'.typeIs slot_list_getitem.lookup (wpAny_getItem_list hl' h0 (by omega) (by simpa using hy) ?_) (hm _ _ _)
    refine args_cons (wpAny_Name (wpAny_loadName_local k4 k3 nsC hmx ?_) hb) (h2 _)
    refine args_nil ?_
    refine kup_newTuple F Nw (fun D h' F' N' hl => ?_) (by simp only [sizeLine]; simp)
    exact ret (.ref D) _ _ _ h' _ ⟨D, rfl, hH.fresh hl, rfl⟩ (.ref D) F' N' (hH.new hl (.tup 0 (.cons (.int _ _) (.cons (.int _ _) .nil))))
end
end Mine
end
section
-- L1
open PySem PySem.W PyProof.Rows
set_option Elab.async false
set_option maxRecDepth 100000
set_option linter.unusedVariables false
namespace Mine
/-- the sort's tree under a fixed answer -/
noncomputable def KSp {α : Type} (n : Nat) (lt : Nat → Nat → Bool) : KasT α → (α → Prop) → Prop
  | .ret a, R => R a
  | .ask i j k, R => i < n ∧ j < n ∧ KSp n lt (k (lt i j)) R
theorem KSp.bind {α β : Type} {n : Nat} {lt : Nat → Nat → Bool} {f : α → KasT β} {R : β → Prop} {S : α → Prop} : ∀ {t : KasT α}, KSp n lt t S → (∀ a, S a → KSp n lt (f a) R) → KSp n lt (t.bind f) R
  | .ret a, h, k => k a h
  | .ask i j g, h, k => ⟨h.1, h.2.1, KSp.bind (t := g (lt i j)) h.2.2 k⟩
theorem KSp.mono {α : Type} {n : Nat} {lt : Nat → Nat → Bool} {R R' : α → Prop} : ∀ {t : KasT α}, KSp n lt t R → (∀ a, R a → R' a) → KSp n lt t R'
  | .ret a, h, k => k a h
  | .ask i j g, h, k => ⟨h.1, h.2.1, KSp.mono (t := g (lt i j)) h.2.2 k⟩
theorem KSp.wp {α : Type} {n : Nat} {lt : Nat → Nat → Bool} {cmp : Nat → Nat → (Bool → Shared → Prop) → Shared → Prop} {Q : α → Shared → Prop} {R : α → Prop} (I : Shared → Prop)
    (hc : ∀ i j C s, i < n → j < n → I s → (∀ s', I s' → C (lt i j) s') → cmp i j C s) (hq : ∀ a s, R a → I s → Q a s) : ∀ {t : KasT α} {s : Shared}, KSp n lt t R → I s → t.kasWp cmp Q s
  | .ret a, s, h, hI => hq a s h hI
  | .ask i j k, s, h, hI => hc i j _ s h.1 h.2.1 hI fun s' hI' => KSp.wp I hc hq (t := k (lt i j)) h.2.2 hI'
section
variable {n : Nat} {κ : Nat → Int}
noncomputable abbrev gP (p : Array Nat) (k : Nat) : Nat := p.getD k 0
theorem gP_eq (p : Array Nat) (k : Nat) : gP p k = (p[k]?).getD 0 := by unfold gP; rw [Array.getD_eq_getD_getElem?]
noncomputable def Pm (n : Nat) (p : Array Nat) : Prop := p.Perm (List.range n).toArray
theorem Pm.size {p : Array Nat} (h : Pm n p) : p.size = n := by have := h.size_eq; simpa using this
theorem Pm.lt {p : Array Nat} (h : Pm n p) {k : Nat} (hk : k < n) : gP p k < n := by
  have hs := h.size
  have : gP p k ∈ p := by
    rw [gP_eq, Array.getElem?_eq_getElem (by omega)]
    exact Array.getElem_mem _
  have := (h.mem_iff).1 this
  simpa using this
theorem Pm.inj {p : Array Nat} (h : Pm n p) {i j : Nat} (hi : i < n) (hj : j < n) (e : gP p i = gP p j) : i = j := by
  have hs := h.size
  have hn : p.toList.Nodup := (Array.perm_iff_toList_perm.1 h).nodup_iff.2 (by simpa using List.nodup_range)
  have e1 : p.toList[i]? = some (gP p i) := by rw [Array.getElem?_toList, gP_eq, Array.getElem?_eq_getElem (by omega)]; rfl
  have e2 : p.toList[j]? = some (gP p j) := by rw [Array.getElem?_toList, gP_eq, Array.getElem?_eq_getElem (by omega)]; rfl
  exact nodup_at hn e1 (e ▸ e2)
noncomputable def AscP (κ : Nat → Int) (p : Array Nat) (m : Nat) : Prop := ∀ i j, i < j → j < m → κ (gP p i) < κ (gP p j)
noncomputable def DescP (κ : Nat → Int) (p : Array Nat) (m : Nat) : Prop := ∀ i j, i < j → j < m → κ (gP p j) < κ (gP p i)
noncomputable abbrev ltK (κ : Nat → Int) (i j : Nat) : Bool := decide (κ i < κ j)
variable (hκ : ∀ i j, i < n → j < n → κ i = κ j → i = j)
include hκ
theorem ne_at {p : Array Nat} (h : Pm n p) {i j : Nat} (hi : i < n) (hj : j < n) (hne : i ≠ j) : κ (gP p i) ≠ κ (gP p j) := fun e => hne (h.inj hi hj (hκ _ _ (h.lt hi) (h.lt hj) e))
theorem asc_is {p : Array Nat} (h : Pm n p) : ∀ (f m : Nat), 1 ≤ m → m + f ≤ n → AscP κ p m → KSp n (ltK κ) (kas_asc p f m) (fun r => m ≤ r ∧ r ≤ m + f ∧ AscP κ p r ∧ (r < m + f → κ (gP p r) < κ (gP p (r - 1))))
  | 0, m, h1, h2, ha => ⟨Nat.le_refl _, Nat.le_refl _, ha, fun q => absurd q (Nat.lt_irrefl _)⟩
  | f + 1, m, h1, h2, ha => by
    unfold kas_asc
    refine ⟨h.lt (by omega), h.lt (by omega), ?_⟩
    by_cases hc : κ (gP p m) < κ (gP p (m - 1))
    · have e : ltK κ (p.getD m 0) (p.getD (m - 1) 0) = true := decide_eq_true hc
      rw [e]
      show KSp n (ltK κ) (.ret m) _
      exact ⟨Nat.le_refl _, by omega, ha, fun _ => hc⟩
    · have e : ltK κ (p.getD m 0) (p.getD (m - 1) 0) = false := decide_eq_false hc
      rw [e]
      show KSp n (ltK κ) (kas_asc p f (m + 1)) _
      have hne := ne_at hκ h (i := m) (j := m - 1) (by omega) (by omega) (by omega)
      have ha' : AscP κ p (m + 1) := fun i j hij hj => by
        by_cases hjm : j < m
        · exact ha i j hij hjm
        · obtain rfl : j = m := by omega
          by_cases hi : i = j - 1
          · subst hi; omega
          · have := ha i (j - 1) (by omega) (by omega); omega
      have := asc_is h f (m + 1) (by omega) (by omega) ha'
      have e2 : m + 1 + f = m + (f + 1) := by omega
      rw [e2] at this
      exact this.mono fun r hr => ⟨by omega, hr.2.1, hr.2.2.1, hr.2.2.2⟩
theorem desc_is {p : Array Nat} (h : Pm n p) : ∀ (f m : Nat), 1 ≤ m → m + f ≤ n → DescP κ p m → KSp n (ltK κ) (kas_desc f p m 0) (fun r => r.1 = p ∧ r.2.2 = 0 ∧ m ≤ r.2.1 ∧ r.2.1 ≤ m + f ∧ DescP κ p r.2.1)
  | 0, m, h1, h2, ha => ⟨rfl, rfl, Nat.le_refl _, Nat.le_refl _, ha⟩
  | f + 1, m, h1, h2, ha => by
    unfold kas_desc
    refine ⟨h.lt (by omega), h.lt (by omega), ?_⟩
    by_cases hc : κ (gP p m) < κ (gP p (m - 1))
    · have e : ltK κ (p.getD m 0) (p.getD (m - 1) 0) = true := decide_eq_true hc
      rw [e]
      show KSp n (ltK κ) (kas_desc f p (m + 1) 0) _
      have ha' : DescP κ p (m + 1) := fun i j hij hj => by
        by_cases hjm : j < m
        · exact ha i j hij hjm
        · obtain rfl : j = m := by omega
          by_cases hi : i = j - 1
          · subst hi; exact hc
          · have := ha i (j - 1) (by omega) (by omega); omega
      exact (desc_is h f (m + 1) (by omega) (by omega) ha').mono fun r hr => ⟨hr.1, hr.2.1, by omega, by omega, hr.2.2.2.2⟩
    · have e : ltK κ (p.getD m 0) (p.getD (m - 1) 0) = false := decide_eq_false hc
      rw [e]
      refine (show KSp n (ltK κ) (.ask (p.getD (m - 1) 0) (p.getD m 0) fun d => if d = true then .ret (p, m, 0) else kas_desc f p (m + 1) (0 + 1)) _ from ⟨h.lt (by omega), h.lt (by omega), ?_⟩)
      have hne := ne_at hκ h (i := m) (j := m - 1) (by omega) (by omega) (by omega)
      have e2 : ltK κ (p.getD (m - 1) 0) (p.getD m 0) = true := decide_eq_true (by show κ (gP p (m - 1)) < κ (gP p m); omega)
      rw [e2]
      exact ⟨rfl, rfl, Nat.le_refl _, Nat.le_add_right _ _, ha⟩
omit hκ in
theorem rev_perm {p : Array Nat} (h : Pm n p) {m : Nat} : Pm n (kas_rev p 0 m) := (mirror_perm p 0 m _).trans h
omit hκ in
theorem rev_asc {p : Array Nat} (h : Pm n p) {m : Nat} (hm : m ≤ n) (ha : DescP κ p m) : AscP κ (kas_rev p 0 m) m := fun i j hij hj => by
  have g : ∀ k, k < m → gP (kas_rev p 0 m) k = gP p (m - 1 - k) := fun k hk => by
    rw [gP_eq, gP_eq]
    unfold kas_rev
    rw [getElem?_mirror_all (by rw [h.size]; exact hm), if_pos ⟨by omega, hk⟩]
    congr 2
    omega
  rw [g i (by omega), g j hj]
  exact ha (m - 1 - j) (m - 1 - i) (by omega) (by omega)
theorem tail3_is {p : Array Nat} (h : Pm n p) {m : Nat} (h1 : 1 ≤ m) (hm : m ≤ n) (ha : DescP κ p m) : KSp n (ltK κ) (kas_tail3 m n p) (fun r => Pm n r.2 ∧ 1 ≤ r.1 ∧ r.1 ≤ n ∧ AscP κ r.2 r.1) := by
  unfold kas_tail3
  refine (asc_is hκ (rev_perm h) (n - m) m h1 (by omega) (rev_asc h hm ha)).bind fun r hr => ?_
  exact ⟨rev_perm h, by omega, by omega, hr.2.2.1⟩
theorem count_is {p : Array Nat} (h : Pm n p) (h2 : 2 ≤ n) : KSp n (ltK κ) (kas_count n p) (fun r => Pm n r.2 ∧ 1 ≤ r.1 ∧ r.1 ≤ n ∧ AscP κ r.2 r.1) := by
  unfold kas_count
  refine (asc_is hκ h (n - 1) 1 (Nat.le_refl _) (by omega) fun i j a b => by omega).bind fun r hr => ?_
  obtain ⟨r1, r2, r3, r4⟩ := hr
  by_cases hn : r = n
  · rw [if_pos (by simp [hn])]
    exact ⟨h, r1, by omega, r3⟩
  · rw [if_neg (by simp [hn])]
    by_cases hr1 : r > 1
    · rw [if_pos hr1]
      refine ⟨h.lt (by omega), h.lt (by omega), ?_⟩
      have e : ltK κ (p.getD 0 0) (p.getD (r - 1) 0) = true := decide_eq_true (r3 0 (r - 1) (by omega) (by omega))
      rw [e]
      exact ⟨h, r1, by omega, r3⟩
    · rw [if_neg hr1]
      obtain rfl : r = 1 := by omega
      have hlt := r4 (by omega)
      unfold kas_descPart
      refine (desc_is hκ h (n - (1 + 1)) (1 + 1) (by omega) (by omega) fun i j a b => ?_).bind fun r hr => ?_
      · obtain rfl : i = 0 := by omega
        obtain rfl : j = 1 := by omega
        exact hlt
      · obtain ⟨q1, q2, q3, q4, q5⟩ := hr
        rw [q2, if_neg (by omega), q1]
        exact tail3_is hκ h (by omega) (by omega) q5
theorem place_is {p : Array Nat} (h : Pm n p) {k : Nat} (hk : k < n) : ∀ (f l r : Nat), r ≤ l + f → l ≤ r → r ≤ k → (∀ i, i < l → κ (gP p i) < κ (gP p k)) → (∀ i, r ≤ i → i < k → κ (gP p k) < κ (gP p i)) → AscP κ p k →
    KSp n (ltK κ) (kas_place p k f l r) (fun q => q ≤ k ∧ (∀ i, i < q → κ (gP p i) < κ (gP p k)) ∧ ∀ i, q ≤ i → i < k → κ (gP p k) < κ (gP p i))
  | 0, l, r, hf, hlr, hrk, a1, a2, ha => by
    obtain rfl : l = r := by omega
    exact ⟨hrk, a1, a2⟩
  | f + 1, l, r, hf, hlr, hrk, a1, a2, ha => by
    unfold kas_place
    by_cases hge : l ≥ r
    · rw [if_pos hge]
      obtain rfl : l = r := by omega
      exact ⟨hrk, a1, a2⟩
    · rw [if_neg hge]
      refine ⟨h.lt hk, h.lt (by omega), ?_⟩
      by_cases hc : κ (gP p k) < κ (gP p ((l + r) / 2))
      · have e : ltK κ (p.getD k 0) (p.getD ((l + r) / 2) 0) = true := decide_eq_true hc
        rw [e]
        show KSp n (ltK κ) (kas_place p k f l ((l + r) / 2)) _
        refine place_is h hk f l ((l + r) / 2) (by omega) (by omega) (by omega) a1 (fun i h1 h2 => ?_) ha
        by_cases hi : i = (l + r) / 2
        · subst hi; exact hc
        · have := ha ((l + r) / 2) i (by omega) h2; omega
      · have e : ltK κ (p.getD k 0) (p.getD ((l + r) / 2) 0) = false := decide_eq_false hc
        rw [e]
        show KSp n (ltK κ) (kas_place p k f ((l + r) / 2 + 1) r) _
        have hne := ne_at hκ h (i := k) (j := (l + r) / 2) hk (by omega) (by omega)
        refine place_is h hk f ((l + r) / 2 + 1) r (by omega) (by omega) hrk (fun i h1 => ?_) a2 ha
        by_cases hi : i = (l + r) / 2
        · subst hi; omega
        · have := ha i ((l + r) / 2) (by omega) (by omega); omega
theorem bin_is : ∀ (f : Nat) {p : Array Nat} (k : Nat), Pm n p → 1 ≤ k → k + f = n → AscP κ p k → KSp n (ltK κ) (kas_bin f p k) (fun q => Pm n q ∧ AscP κ q n)
  | 0, p, k, h, h1, hk, ha => by
    obtain rfl : k = n := by omega
    exact ⟨h, ha⟩
  | f + 1, p, k, h, h1, hk, ha => by
    unfold kas_bin
    refine (place_is hκ h (k := k) (by omega) k 0 k (by omega) (by omega) (Nat.le_refl _) (fun i hi => by omega) (fun i a b => by omega) ha).bind fun l hl => ?_
    obtain ⟨l1, l2, l3⟩ := hl
    have g : ∀ j, gP (bubble p k (k - l)) j = if j = l then gP p k else if l < j ∧ j ≤ k then gP p (j - 1) else gP p j := fun j => by
      rw [gP_eq, getElem?_bubble (by rw [h.size]; omega) _ (by omega), show k - (k - l) = l from by omega]
      split
      · rw [gP_eq]
      · split
        · rw [gP_eq]
        · rw [gP_eq]
    refine bin_is f (k + 1) ((bubble_perm p k _).trans h) (by omega) (by omega) fun i j hij hj => ?_
    rw [g i, g j]
    by_cases hi : i = l
    · rw [if_pos hi, if_neg (by omega), if_pos (by omega)]
      exact l3 (j - 1) (by omega) (by omega)
    · rw [if_neg hi]
      by_cases hi2 : l < i ∧ i ≤ k
      · rw [if_pos hi2, if_neg (by omega), if_pos (by omega)]
        exact ha (i - 1) (j - 1) (by omega) (by omega)
      · rw [if_neg hi2]
        have hil : i < l := by omega
        by_cases hj2 : j = l
        · rw [if_pos hj2]; exact l2 i hil
        · rw [if_neg hj2]
          by_cases hj3 : l < j ∧ j ≤ k
          · rw [if_pos hj3]; exact ha i (j - 1) (by omega) (by omega)
          · rw [if_neg hj3]; exact ha i j hij (by omega)
theorem sort_is (h2 : 2 ≤ n) : KSp n (ltK κ) (kas_sort n) (fun q => Pm n q ∧ AscP κ q n) := by
  unfold kas_sort
  refine (count_is hκ (p := List.toArray (List.range n)) (Array.Perm.refl _) h2).bind fun r hr => ?_
  obtain ⟨r1, r2, r3, r4⟩ := hr
  by_cases h : r.1 < n
  · rw [if_pos h, show max r.1 1 = r.1 from by omega]
    exact bin_is hκ (n - r.1) r.1 r1 r2 (by omega) r4
  · rw [if_neg h]
    obtain e : r.1 = n := by omega
    exact ⟨r1, e ▸ r4⟩
end
end Mine
end
section
-- Q15
open PySem PySem.W PyProof.Rows PyProof.Rows.LCg PySem.Calls
set_option Elab.async false
set_option maxRecDepth 100000
set_option linter.unusedVariables false
namespace Mine
section
variable {w : World} {d : Nat} {f : FI} {N : List SV} {H : Hp}
theorem BName.sorted : BName (Str.ofString "sorted") (.builtin "sorted") := ⟨fun P => by rfl, boot_sorted, by decide, by decide⟩
noncomputable abbrev Trip := Addr × Int × Int
theorem DenL.refs {ts : List Trip} {xs : List Value} (h : DenL (ts.map fun t => SV.ref t.1) xs) : xs = ts.map fun t => Value.ref t.1 := by
  induction ts generalizing xs with
  | nil => cases h; rfl
  | cons t r ih =>
    cases h with
    | cons hd hr => (first | obtain rfl := hd.ri | obtain ⟨_, rfl⟩ := hd.ii | obtain rfl := hd.ni | obtain rfl := hd.mi | cases hd); rw [ih hr]; rfl
theorem DenL.ofRefs (ts : List Trip) : DenL (ts.map fun t => SV.ref t.1) (ts.map fun t => Value.ref t.1) := by
  induction ts with
  | nil => exact .nil
  | cons t r ih => exact .cons (.ref _) ih
noncomputable abbrev tD (ts : List Trip) (i : Nat) : Trip := ts.getD i (0, 0, 0)
noncomputable def kT (ts : List Trip) (i : Nat) : Int := (tD ts i).2.1 * 1000 + (tD ts i).2.2
theorem tD_mem {ts : List Trip} {i : Nat} (h : i < ts.length) : tD ts i ∈ ts := by
  unfold tD
  rw [List.getD_eq_getElem?_getD, List.getElem?_eq_getElem h]
  exact List.getElem_mem h
theorem tD_val {ts : List Trip} {i : Nat} (h : i < ts.length) : (ts.map fun t => Value.ref t.1).getD i Value.none = .ref (tD ts i).1 := by
  unfold tD
  rw [List.getD_eq_getElem?_getD, List.getD_eq_getElem?_getD, List.getElem?_map, List.getElem?_eq_getElem h]
  rfl
theorem range_tD (ts : List Trip) : (List.range ts.length).map (tD ts) = ts := by
  apply List.ext_getElem?
  intro i
  rw [List.getElem?_map]
  by_cases h : i < ts.length
  · rw [List.getElem?_range h, Option.map_some, List.getElem?_eq_getElem h]
    unfold tD
    rw [List.getD_eq_getElem?_getD, List.getElem?_eq_getElem h]; rfl
  · rw [List.getElem?_eq_none (by simp; omega), List.getElem?_eq_none (by omega)]; rfl
/-- one question of the sort: two tuples of two ints -/
theorem tup_lt {prog : Program} {A : Around} {E : Value → Shared → Prop} {s : Shared} {x y : Addr} {ox oy : Obj} {l1 x1 l2 x2 : Int} {t1 t2 t3 t4 : Tok} {n k : Nat} {C : Bool → Shared → Prop} (hx : s.heap.get? x = some ox) (dx : ox.data = .seq #[.int l1 t1, .int x1 t2] n) (hy : s.heap.get? y = some oy) (dy : oy.data = .seq #[.int l2 t3, .int x2 t4] k)
    (h1 : 0 ≤ x1) (h2 : x1 < 1000) (h3 : 0 ≤ x2) (h4 : x2 < 1000) (h : ∀ tk', C (decide (l1 * 1000 + x1 < l2 * 1000 + x2)) { s with toks := tk' }) : wpAny (model prog w) A (keyLt' (tuples' true) (.ref x) (.ref y)) C E s := by
  refine kat_lt hx dx hy dy ?_
  refine kat_cons (wpAny_eqBool_int ?_)
  by_cases e : l1 = l2
  · subst e
    rw [beq_self_eq_true]
    refine kat_yes (kat_cons (wpAny_eqBool_int ?_))
    by_cases e' : x1 = x2
    · subst e'
      rw [beq_self_eq_true]
      refine kat_yes (kat_nil ?_)
      have := h s.toks
      rw [decide_eq_false (by omega)] at this
      simpa using this
    · rw [beq_eq_false_iff_ne.2 e']
      refine kat_no (kat_one _ _ (lt_int ?_))
      show C (decide (x1 < x2)) _
      have := h
      rw [show decide (l1 * 1000 + x1 < l1 * 1000 + x2) = decide (x1 < x2) from by rw [decide_eq_decide]; omega] at this
      exact this _
  · rw [beq_eq_false_iff_ne.2 e]
    refine kat_no (oneLt_int ?_)
    have := h s.toks
    rw [show decide (l1 * 1000 + x1 < l2 * 1000 + x2) = decide (l1 < l2) from by rw [decide_eq_decide]; omega] at this
    exact this
theorem DenL.two {a b : Int} {xs : List Value} (h : DenL [.int a, .int b] xs) : ∃ t u, xs = [.int a t, .int b u] := by
  replace h := h.cons_inv
  obtain ⟨_, _, e_, h1, h2⟩ := h
  cases e_
  cases h2 with
  | cons h3 h4 => (first | obtain rfl := h1.ri | obtain ⟨_, rfl⟩ := h1.ii | obtain rfl := h1.ni | obtain rfl := h1.mi | cases h1); (first | obtain rfl := h3.ri | obtain ⟨_, rfl⟩ := h3.ii | obtain rfl := h3.ni | obtain rfl := h3.mi | cases h3); (first | obtain rfl := h4.ri | obtain ⟨_, rfl⟩ := h4.ii | obtain rfl := h4.ni | obtain rfl := h4.mi | cases h4); exact ⟨_, _, rfl⟩
theorem tups_of {g : Heap} : ∀ (ts : List Trip), (∀ t ∈ ts, ∃ o n u v, g.get? t.1 = some o ∧ o.cls = .type "tuple" ∧ o.data = .seq #[.int t.2.1 u, .int t.2.2 v] n) → ∃ fs, KatTups g (ts.map fun t => Value.ref t.1) fs ∧ fs.length = ts.length ∧ ∀ v ∈ fs, ∃ z u, v = .int z u
  | [], _ => ⟨[], trivial, rfl, by simp⟩
  | t :: r, h => by
    obtain ⟨fs, h1, h2, h3⟩ := tups_of r fun t ht => h t (List.mem_cons_of_mem _ ht)
    obtain ⟨o, n, u, v, e1, e2, e3⟩ := h t List.mem_cons_self
    exact ⟨.int t.2.1 u :: fs, KatTups.cons e1 e2 e3 rfl h1, by simp [h2], fun x hx => by
      rcases List.mem_cons.1 hx with rfl | hx
      · exact ⟨_, _, rfl⟩
      · exact h3 x hx⟩
/-- sorted(list of pairs of ints) -/
theorem Ev.sortedTup {e : PySem.Expr} {K1 K : SV → Hp → Prop} {np pos : Pos} (hk : f.cs.names.lookup (Str.ofString "sorted") = some .globalImplicit) (he : Ev w d f N H e K1)
    (h : ∀ v H1, K1 v H1 → ∃ (a : Addr) (ts : List Trip), v = .ref a ∧ H1 a = some (.lst (ts.map fun t => .ref t.1)) ∧ (∀ t ∈ ts, H1 t.1 = some (.tup [.int t.2.1, .int t.2.2])) ∧ 2 ≤ ts.length ∧ ts.length < 64 ∧ (∀ t ∈ ts, 0 ≤ t.2.2 ∧ t.2.2 < 1000) ∧
      (∀ i j, i < ts.length → j < ts.length → (tD ts i).2.2 = (tD ts j).2.2 → i = j) ∧
      ∀ D (ts' : List Trip), H1 D = none → ts'.Perm ts → ts'.Pairwise (fun t u => t.2.1 < u.2.1 ∨ (t.2.1 = u.2.1 ∧ t.2.2 < u.2.2)) → K (.ref D) (H1.set D (.lst (ts'.map fun t => .ref t.1))))
    (hm : ∀ env, eval (.Call (.Name (Str.ofString "sorted") np) [e] [] pos) env = (do callWith pos (← eval (.Name (Str.ofString "sorted") np) env) [] (backTo pos (starEach [e] env)) (backToKw pos (keywordEach [] env))) := by intros; with_unfolding_all exact rfl)
    (h1 : ∀ env, starEach [e] env = (false, eval e env) :: starEach [] env := by intros; exact starEach_plain rfl) : Ev w d f N H (.Call (.Name (Str.ofString "sorted") np) [e] [] pos) K := by
  refine Ev.bcall1 (KA := fun us H' => ∃ v, us = [v] ∧ K1 v H') BName.sorted hk (EvL.consK he (fun v H1 hv => EvL.nilK ⟨v, rfl, hv⟩) h1) ?_ hm h1
  intro us H1 hK c s Q E ys ok at' hD ret
  obtain ⟨v, rfl, hv⟩ := hK
  obtain ⟨a, ts, rfl, ha, htup, h2, h64, hx, hinj, hK⟩ := h v H1 hv
  replace hD := hD.cons_inv
  obtain ⟨_, _, e_, hv, hn⟩ := hD
  cases e_
  (first | obtain rfl := hv.ri | obtain ⟨_, rfl⟩ := hv.ii | obtain rfl := hv.ni | obtain rfl := hv.mi | cases hv); (first | obtain rfl := hn.ri | obtain ⟨_, rfl⟩ := hn.ii | obtain rfl := hn.ni | obtain rfl := hn.mi | cases hn)
  obtain ⟨m, news, F, Nw, hN, hH⟩ := at'
  obtain ⟨oa, ma, da⟩ := hH.get ha
  obtain ⟨xs, n, rfl, dL⟩ := da.lst_inv
  have hxs := dL.refs
  subst hxs
  refine kat_sorted F Nw ⟨_, (Nw _ ma).1, rfl, _, rfl⟩ (by simpa using h2) (by simpa using h64) (fun D e1 h' F' N' hl => ?_)
  have tup : ∀ t ∈ ts, ∃ o n u v, h'.get? t.1 = some o ∧ o.cls = .type "tuple" ∧ o.data = .seq #[.int t.2.1 u, .int t.2.2 v] n := fun t ht => by
    obtain ⟨ot, mt, dt⟩ := hH.get (htup t ht)
    obtain ⟨_, n, rfl, dT⟩ := dt.tup_inv
    obtain ⟨u, v, rfl⟩ := dT.two
    exact ⟨_, n, u, v, (N' _ (List.mem_cons_of_mem _ mt)).1, rfl, rfl⟩
  obtain ⟨fs, hf1, hf2, hf3⟩ := tups_of (g := h') ts tup
  refine kat_kind (T := .type "int") hf1 (by omega) (fun v hv => by obtain ⟨z, u, rfl⟩ := hf3 v hv; exact Looks.of_pure rfl) (by decide) ?_
  rw [show (Value.type "int" != Value.type "tuple") = true from by decide]
  rw [List.length_map]
  have hκ : ∀ i j, i < ts.length → j < ts.length → kT ts i = kT ts j → i = j := fun i j hi hj e => by
    have b1 := hx _ (tD_mem hi)
    have b2 := hx _ (tD_mem hj)
    unfold kT at e
    exact hinj i j hi hj (by omega)
  refine KSp.wp (fun s' : Shared => ∃ tk', s' = { s with heap := h', toks := tk' }) (n := ts.length) (lt := ltK (kT ts)) ?_ ?_ (sort_is hκ h2) ⟨s.toks, rfl⟩
  · rintro i j C s' hi hj ⟨tk', rfl⟩ hC
    show wpAny _ _ (keyLt' _ _ _) C _ _
    rw [tD_val hi, tD_val hj]
    obtain ⟨o1, n1, u1, v1, p1, p2, p3⟩ := tup _ (tD_mem hi)
    obtain ⟨o2, n2, u2, v2, q1, q2, q3⟩ := tup _ (tD_mem hj)
    exact tup_lt (s := { s with heap := h', toks := tk' }) p1 p3 q1 q3 (hx _ (tD_mem hi)).1 (hx _ (tD_mem hi)).2 (hx _ (tD_mem hj)).1 (hx _ (tD_mem hj)).2 fun tk2 => hC _ ⟨tk2, rfl⟩
  · rintro p s' ⟨hp, hs⟩ ⟨tk', rfl⟩
    have eo : (p.toList.map fun i => (ts.map fun t => Value.ref t.1).getD i Value.none) = (p.toList.map (tD ts)).map fun t => Value.ref t.1 := by
      rw [List.map_map]
      refine List.map_congr_left fun i hi => ?_
      have hi' : i < ts.length := by
        have := (hp.mem_iff (a := i)).1 (by simpa using hi)
        simpa using this
      rw [tD_val hi']; rfl
    rw [eo]
    have perm : (p.toList.map (tD ts)).Perm ts := by
      have := (Array.perm_iff_toList_perm.1 hp).map (tD ts)
      rw [show (List.range ts.length).toArray.toList = List.range ts.length from rfl, range_tD] at this
      exact this
    have asc : (p.toList.map (tD ts)).Pairwise (fun t u => t.2.1 < u.2.1 ∨ (t.2.1 = u.2.1 ∧ t.2.2 < u.2.2)) := by
      rw [List.pairwise_map, List.pairwise_iff_getElem]
      intro i j hi hj hij
      have hsz := hp.size
      have hj' : j < ts.length := by simpa [hsz] using hj
      have := hs i j hij hj'
      have g1 : gP p i = p.toList[i] := by rw [gP_eq, Array.getElem?_eq_getElem (by simpa using hi)]; rfl
      have g2 : gP p j = p.toList[j] := by rw [gP_eq, Array.getElem?_eq_getElem (by simpa using hj)]; rfl
      rw [g1, g2] at this
      have l1 : p.toList[i] < ts.length := g1 ▸ hp.lt (by omega)
      have l2 : p.toList[j] < ts.length := g2 ▸ hp.lt hj'
      have b1 := hx _ (tD_mem l1)
      have b2 := hx _ (tD_mem l2)
      unfold kT at this
      omega
    refine KasFin.intro F' N' (.head fun q hq => Nat.ne_of_lt (hl q hq)) fun h'' k F'' N'' => ?_
    exact ret (.ref D) (.ref D) _ h'' tk' (hK D _ (hH.fresh hl) perm asc) (.ref D) ⟨m, _, F'', N'', hN, hH.new hl (.lst k (DenL.ofRefs _))⟩
end
end Mine
end
section
-- Q16
open PySem PySem.W PyProof.Rows PyProof.Rows.LCg PySem.Calls
set_option Elab.async false
set_option maxRecDepth 100000
set_option linter.unusedVariables false
namespace Mine
section
variable {w : World} {d : Nat} {f : FI} {N : List SV} {H : Hp}
/-- a, b, c = e, e a list of three -/
theorem Ex.unpack3L {K : Fl → List SV → Hp → Prop} {x y z : Str} {xp yp zp tp pos : Pos} {k : Nat} {e : PySem.Expr} {rest : List Stmt} {K1 : SV → Hp → Prop} {i j l : Nat} (he : Ev w d f N H e K1) (hx' : VarAt f.vars i x) (hy' : VarAt f.vars j y) (hz' : VarAt f.vars l z)
    (h : ∀ v H1, K1 v H1 → ∃ t a b c, v = .ref t ∧ H1 t = some (.lst [a, b, c]) ∧ Ex w d f (((N.set i a).set j b).set l c) H1 rest K)
    (hm : ∀ env, swapsWithSole [.Tuple [.Name x xp, .Name y yp, .Name z zp] k tp] e pos.line env = pure false := by intros; with_unfolding_all exact rfl)
    (hw : ∀ env, swappedStores [.Tuple [.Name x xp, .Name y yp, .Name z zp] k tp] e env = pure none := by intros; with_unfolding_all exact rfl) : Ex w d f N H (.Assign [.Tuple [.Name x xp, .Name y yp, .Name z zp] k tp] e pos :: rest) K := by
  have hx := hx'.at'
  have hy := hy'.at'
  have hz := hz'.at'
  refine Ex.cons ?_
  intro cx s Q E ok pe at' ret
  refine Assign_Tuple (he cx s _ E ok at' ?_) (hm _) (hw _)
  intro v u H1 h1 tk1 hK hD at1
  obtain ⟨t, a, b, c, rfl, ht, hr⟩ := h v H1 hK
  (first | obtain rfl := hD.ri | obtain ⟨_, rfl⟩ := hD.ii | obtain rfl := hD.ni | obtain rfl := hD.mi | cases hD)
  obtain ⟨m, news, F, Nw, hN, hH⟩ := at1
  obtain ⟨ot, mt, dt⟩ := hH.get ht
  obtain ⟨_, n, rfl, dL⟩ := dt.lst_inv
  replace dL := dL.cons_inv
  obtain ⟨_, _, e_, d1, dL⟩ := dL
  cases e_
  replace dL := dL.cons_inv
  obtain ⟨_, _, e_, d2, dL⟩ := dL
  cases e_
  replace dL := dL.cons_inv
  obtain ⟨_, _, e_, d3, dL⟩ := dL
  cases e_
  cases dL
  refine kun_list (s := { s with heap := h1, toks := tk1 }) F Nw ⟨_, (Nw _ mt).1, rfl, _, rfl⟩ rfl rfl rfl (fun h' F' N' => ?_)
  refine assignInOrder_cons (wpAny_assign_Name (storeX_L F' N' (fun h2 F2 N2 => ?_) ok.g.hk (ok.g.loc x (List.mem_of_getElem? hx)).1))
  refine assignInOrder_cons (wpAny_assign_Name (storeX_L F2 N2 (fun h3 F3 N3 => ?_) ok.g.hk (ok.g.loc y (List.mem_of_getElem? hy)).1))
  refine assignInOrder_cons (wpAny_assign_Name (storeX_L F3 N3 (fun h4 F4 N4 => ?_) ok.g.hk (ok.g.loc z (List.mem_of_getElem? hz)).1))
  refine assignInOrder_nil ?_
  exact ret .next .next _ H1 h4 _ hr .next ⟨_, news, F4, N4, ((hN.set ok.g.nd hx d1).set ok.g.nd hy d2).set ok.g.nd hz d3, hH⟩
/-- xs[-1] -/
theorem Ev.itemBack {e sl : PySem.Expr} {a : Addr} {vs : List SV} {k : Int} {v : SV} {pos : Pos} (he : EvP w d f N H e (.ref a)) (hs : EvP w d f N H sl (.int k)) (ha : H a = some (.lst vs)) (h0 : k < 0) (h1 : -(vs.length : Int) ≤ k) (h2 : -1000000 ≤ k) (hx : vs[(k + (vs.length : Int)).toNat]? = some v)
    (hm : ∀ a k u, subscripted sl false (.ref a) (.int k u) = operate [.ref a, .int k u] (getItem (.ref a) (.int k u)) := by intros; with_unfolding_all exact rfl) : EvP w d f N H (.Subscript e sl pos) v := by
  intro c s Q E ok at' ret
  refine Subscript_ (he c s _ E ok at' ?_)
  intro v1 y1 H1 h1' tk1 hK hD at1
  obtain ⟨rfl, rfl⟩ := hK
  (first | obtain rfl := hD.ri | obtain ⟨_, rfl⟩ := hD.ii | obtain rfl := hD.ni | obtain rfl := hD.mi | cases hD)
  refine hs c { s with heap := h1', toks := tk1 } _ E ok at1 ?_
  intro v2 y2 H2 h2' tk2 hK hD at2
  obtain ⟨rfl, rfl⟩ := hK
  (first | obtain rfl := hD.ri | obtain ⟨_, rfl⟩ := hD.ii | obtain rfl := hD.ni | obtain rfl := hD.mi | cases hD)
  have at3 := at2
  obtain ⟨m, news, F, Nw, hN, hH⟩ := at2
  obtain ⟨oa, ma, da⟩ := hH.get ha
  obtain ⟨xs, n, rfl, dL⟩ := da.lst_inv
  obtain ⟨y, hy, hden⟩ := dL.get hx
  have hlen := dL.length
  have hl : h2'.IsList a xs.toArray := ⟨_, (Nw _ ma).1, rfl, _, rfl⟩
  exact tail_any (s := { s with heap := h2', toks := tk2 }) hl.typeIs slot_list_getitem.lookup (wpAny_getItem_list_neg (s := { s with heap := h2', toks := tk2 }) hl h0 (by rw [List.size_toArray, hlen]; exact h1) (by omega) (by rw [List.size_toArray, hlen]; simpa using hy) (ret v y H2 h2' tk2 ⟨rfl, rfl⟩ hden at3)) (hm _ _ _)
/-- C() -/
theorem Ev.make0 {d' : Nat} {fe : PySem.Expr} {C fI : Addr} {K : SV → Hp → Prop} {pos : Pos} (hf : EvP w d f N H fe (.ref C)) (hk : Fn C) (hc : MkCls C fI)
    (S : ∀ x dx, H dx = none → H x = none → dx ≠ x → Sp w d' fI [.ref x] ((H.set dx (.attrs [])).set x (.inst C dx)) (fun v H2 => v = .none ∧ K (.ref x) H2)) (hd : d + 4 ≤ d')
    (hm : ∀ env, eval (.Call fe [] [] pos) env = (do callWith pos (← eval fe env) [] (backTo pos (starEach [] env)) (backToKw pos (keywordEach [] env))) := by intros; with_unfolding_all exact rfl) : Ev w d f N H (.Call fe [] [] pos) K := by
  intro c s Q E ok at' ret
  refine Call_ (hf c s _ E ok at' ?_) (hm _)
  intro v1 y1 H2 h2' tk2 hK hD1 at2
  obtain ⟨rfl, rfl⟩ := hK
  (first | obtain rfl := hD1.ri | obtain ⟨_, rfl⟩ := hD1.ii | obtain rfl := hD1.ni | obtain rfl := hD1.mi | cases hD1)
  refine callWith_K0 (at2.kin ok) (hk.kp _) ?_
  obtain ⟨m, news, F, Nw, hN, hH⟩ := at2
  refine call_cls (s := { s with heap := h2', toks := tk2 }) F ok.X Nw (hc.mi _) (hc.fi _) (hc.fn _) (fun x dx h' F' N' hl hlx => ?_)
  have n1 : H2 dx = none := hH.fresh hl
  have n2 : H2 x = none := hH.fresh fun p hp => Nat.lt_trans (hl p hp) hlx
  have hH1 : HOK w c.ex (H2.set dx (.attrs [])) ((dx, dictOf [] 0) :: news) := hH.new hl (.attrs 0 .nil)
  have hH2 : HOK w c.ex ((H2.set dx (.attrs [])).set x (.inst C dx)) ((x, instObj C dx) :: (dx, dictOf [] 0) :: news) := hH1.new (fun p hp => by
    rcases List.mem_cons.mp hp with rfl | hp
    · exact hlx
    · exact Nat.lt_trans (hl p hp) hlx) .inst
  have S' := S x dx n1 n2 (Nat.ne_of_lt hlx) [.ref x] (.cons (.ref x) .nil) { c with dp := c.dp + (Code.builtin "type.__call__" ⟨[.ref C], []⟩).weight, un := c.un + (Code.builtin "type.__call__" ⟨[.ref C], []⟩).cUnits } f m _ { s with heap := h', toks := tk2 }
    (InitBack x fun r s' => match r with
      | .ok (.ret v) => Q v s'
      | .ok _ => False
      | .error e => E e s') ok.B ok.X ok.T ok.g.hk (by have := ok.dl; show c.dp + _ ≤ d' + 400; exact Nat.le_trans (Nat.add_le_add this (Nat.le_of_ble_eq_true rfl : _ ≤ 4)) (by omega)) (by have := ok.ul; show c.un + _ ≤ 10 * d'; exact Nat.le_trans (Nat.add_le_add this (Nat.le_of_ble_eq_true rfl : _ ≤ 4)) (by omega)) F' N' hH2
    (fun v y H3 news' h3 tk3 hK3 hDn F3 N3 hH3 => by
      obtain ⟨rfl, hK3⟩ := hK3
      (first | obtain rfl := hDn.ri | obtain ⟨_, rfl⟩ := hDn.ii | obtain rfl := hDn.ni | obtain rfl := hDn.mi | cases hDn)
      exact ⟨rfl, ret (.ref x) _ H3 h3 tk3 hK3 (.ref x) ⟨m, news', F3, N3, hN, hH3⟩⟩)
  exact S'
/-- a comparison whose sides do things -/
theorem EvB.cmpK {l r : PySem.Expr} {op : CmpOp} {K1 : SV → Hp → Prop} {K2 : SV → SV → Hp → Prop} {K : Bool → Hp → Prop} {pos : Pos} (hl : Ev w d f N H l K1) (hr : ∀ v H1, K1 v H1 → Ev w d f N H1 r (K2 v)) (h : ∀ a b H2, K2 a b H2 → ∃ v, CmpR w f op a b H2 N v ∧ K v H2) (hm : behindInMarks op r = false := by with_unfolding_all exact rfl) : EvB w d f N H (.Compare l [op] [r] pos) K := by
  intro c s Q E ok at' ret
  refine wpAny_isTrue_Compare1 (hl c s _ E ok at' ?_) hm
  intro v1 y1 H1 h1 tk1 hK hD1 at1
  refine hr v1 H1 hK c { s with heap := h1, toks := tk1 } _ E ok at1 ?_
  intro v2 y2 H2 h2 tk2 hK2 hD2 at2
  obtain ⟨b, ho, hK3⟩ := h _ _ _ hK2
  exact ho c { s with heap := h2, toks := tk2 } _ E d _ _ ok hD1 hD2 at2 fun tk' => wpAny_truthy_bool (ret b H2 h2 tk' hK3 at2)
theorem EvB.orK {l r : PySem.Expr} {K0 K : Bool → Hp → Prop} {pos : Pos} (hl : EvB w d f N H l K0) (ht : ∀ H1, K0 true H1 → K true H1) (hr : ∀ H1, K0 false H1 → EvB w d f N H1 r K) : EvB w d f N H (.BoolOp .Or [l, r] pos) K := by
  intro c s Q E ok at' ret
  refine isTrue_or (hl c s _ E ok at' ?_)
  intro v1 H1 h1 tk1 hK at1
  cases v1 with
  | true => exact ret _ H1 h1 tk1 (ht H1 hK) at1
  | false =>
    refine isTrue_or (hr H1 hK c { s with heap := h1, toks := tk1 } _ E ok at1 ?_)
    intro b H2 h2 tk2 hK at2
    cases b with
    | true => exact ret _ H2 h2 tk2 hK at2
    | false => exact isTrue_or_nil (ret _ H2 h2 tk2 hK at2)
theorem EvB.or3 {l r t : PySem.Expr} {a b c : Bool} {pos : Pos} (hl : EvBP w d f N H l a) (hr : a = false → EvBP w d f N H r b) (ht : a = false → b = false → EvBP w d f N H t c) : EvBP w d f N H (.BoolOp .Or [l, r, t] pos) (a || b || c) := by
  intro cx s Q E ok at' ret
  refine isTrue_or (hl cx s _ E ok at' ?_)
  intro v1 H1 h1 tk1 hK at1
  obtain ⟨rfl, rfl⟩ := hK
  cases v1 with
  | true => exact ret _ H1 h1 tk1 ⟨rfl, rfl⟩ at1
  | false =>
    refine isTrue_or (hr rfl cx _ _ E ok at1 ?_)
    intro v2 H2 h2 tk2 hK at2
    obtain ⟨rfl, rfl⟩ := hK
    cases v2 with
    | true => exact ret _ H2 h2 tk2 ⟨rfl, rfl⟩ at2
    | false =>
      refine isTrue_or (ht rfl rfl cx _ _ E ok at2 ?_)
      intro v3 H3 h3 tk3 hK at3
      obtain ⟨rfl, rfl⟩ := hK
      cases v3 with
      | true => exact ret _ H3 h3 tk3 ⟨rfl, rfl⟩ at3
      | false => exact isTrue_or_nil (ret _ H3 h3 tk3 ⟨rfl, rfl⟩ at3)
end
end Mine
end
section
-- Q17
open PySem PySem.W PyProof.Rows PyProof.Rows.LCg PySem.Calls PySem.SeqAt
set_option Elab.async false
set_option maxRecDepth 100000
set_option linter.unusedVariables false
namespace Mine
section
variable {w : World} {d : Nat} {f : FI} {N : List SV} {H : Hp}
theorem EvB.not {e : PySem.Expr} {b : Bool} {pos : Pos} (h : EvBP w d f N H e b) : EvBP w d f N H (.UnaryOp .Not e pos) (!b) := by
  intro c s Q E ok at' ret
  refine isTrue_not (h c s _ E ok at' ?_)
  intro v1 H1 h1 tk1 hK at1
  obtain ⟨rfl, rfl⟩ := hK
  exact ret _ H1 h1 tk1 ⟨rfl, rfl⟩ at1
/-- values that are found equal: the same objects, or lists of such -/
inductive EqV (H : Hp) : Nat → SV → SV → Prop
  | same {n : Nat} (v : SV) : EqV H n v v
  | lst {n : Nat} {a b : Addr} {vs ws : List SV} : H a = some (.lst vs) → H b = some (.lst ws) → a ≠ b → vs.length = ws.length → (∀ (i : Nat) v u, vs[i]? = some v → ws[i]? = some u → EqV H n v u) → EqV H (n + 1) (.ref a) (.ref b)
theorem DenL.get' {vs : List SV} {xs : List Value} (h : DenL vs xs) {i : Nat} (hi : i < xs.toArray.size) : ∃ v, vs[i]? = some v ∧ Den v xs.toArray[i] := by
  have hl := h.length
  have hi' : i < vs.length := by simpa [hl] using hi
  obtain ⟨y, hy, hd⟩ := h.get (List.getElem?_eq_getElem hi')
  refine ⟨_, List.getElem?_eq_getElem hi', ?_⟩
  have : xs[i]? = some xs.toArray[i] := by simp at hi ⊢
  rw [this] at hy
  (first | obtain rfl := hy.ri | obtain ⟨_, rfl⟩ := hy.ii | obtain rfl := hy.ni | obtain rfl := hy.mi | cases hy)
  exact hd
theorem eqv_elems {n : Nat} {vs ws : List SV} {xs ys : List Value} {A : Around} {s : Shared} (h1 : DenL vs xs) (h2 : DenL ws ys) (h : ∀ (i : Nat) v u x y, vs[i]? = some v → ws[i]? = some u → Den v x → Den u y → EqAt A s x y true) :
    ∀ j (i1 : j < xs.toArray.size) (i2 : j < ys.toArray.size), EqAt A s xs.toArray[j] ys.toArray[j] ((fun _ => true) j) := fun j i1 i2 => by
  obtain ⟨v, hv, dv⟩ := h1.get' i1
  obtain ⟨u, hu, du⟩ := h2.get' i2
  exact h j v u _ _ hv hu dv du
theorem allT {n : Nat} : ((List.range n).all fun _ => true) = true := List.all_eq_true.2 fun _ _ => rfl
theorem EqV.at' {ex news : List (Addr × Obj)} {h₀ : Heap} {L : Addr} {s : Shared} (hH : HOK w ex H news) (Nw : News h₀ L s.heap news) {n : Nat} {v u : SV} (h : EqV H n v u) : ∀ {A : Around} {x y : Value}, Den v x → Den u y → A.units + n < cLine → EqAt A s x y true := by
  induction h with
  | same v =>
    intro A x y hx hy _
    cases hx with
    | none => (first | obtain rfl := hy.ri | obtain ⟨_, rfl⟩ := hy.ii | obtain rfl := hy.ni | obtain rfl := hy.mi | cases hy); exact EqAt.same _
    | bool b => (first | obtain rfl := hy.ri | obtain ⟨_, rfl⟩ := hy.ii | obtain rfl := hy.ni | obtain rfl := hy.mi | cases hy); exact EqAt.same _
    | int z t => cases hy with | int _ u => have := EqAt.int_int (A := A) (s := s) z t z u; simpa using this
    | str z t => cases hy with | str _ u => have := EqAt.str_str (A := A) (s := s) z t z u; simpa using this
    | ref a => (first | obtain rfl := hy.ri | obtain ⟨_, rfl⟩ := hy.ii | obtain rfl := hy.ni | obtain rfl := hy.mi | cases hy); exact EqAt.same _
  | lst ha hb hne hl _ ih =>
    intro A x y hx hy hu
    (first | obtain rfl := hx.ri | obtain ⟨_, rfl⟩ := hx.ii | obtain rfl := hx.ni | obtain rfl := hx.mi | cases hx); (first | obtain rfl := hy.ri | obtain ⟨_, rfl⟩ := hy.ii | obtain rfl := hy.ni | obtain rfl := hy.mi | cases hy)
    obtain ⟨oa, ma, da⟩ := hH.get ha
    obtain ⟨ob, mb, db⟩ := hH.get hb
    obtain ⟨_, n1, rfl, d1⟩ := da.lst_inv
    obtain ⟨_, n2, rfl, d2⟩ := db.lst_inv
    have l1 := d1.length
    have l2 := d2.length
    refine EqAt.of_refs hne ?_
    have := RcAt.lists (A := A) (s := s) (e := fun _ => true) ⟨_, (Nw _ ma).1, rfl, _, rfl⟩ ⟨_, (Nw _ mb).1, rfl, _, rfl⟩ (by simp; omega) (by omega)
      (eqv_elems (n := 0) d1 d2 fun i v u x y hv hu' dv du => ih i v u hv hu' dv du (by show A.units + 1 + _ < cLine; omega))
    rw [allT] at this; exact this
theorem EqV.le {H' : Hp} {n : Nat} {v u : SV} (h : EqV H n v u) (l : Hle H H') : EqV H' n v u := by
  induction h with
  | same v => exact .same v
  | lst ha hb hne hl _ ih => exact .lst (l _ _ ha) (l _ _ hb) hne hl ih
theorem EqV.copy {n : Nat} {a b : Addr} {vs : List SV} (ha : H a = some (.lst vs)) (hb : H b = some (.lst vs)) (hne : a ≠ b) : EqV H (n + 1) (.ref a) (.ref b) :=
  .lst ha hb hne rfl fun i v u h1 h2 => by rw [h1] at h2; (first | obtain rfl := h2.ri | obtain ⟨_, rfl⟩ := h2.ii | obtain rfl := h2.ni | obtain rfl := h2.mi | cases h2); exact .same v
theorem CmpR.eqV {n : Nat} {a b : Addr} {vs ws : List SV} (ha : H a = some (.lst vs)) (hb : H b = some (.lst ws)) (hl : vs.length = ws.length) (h : ∀ (i : Nat) v u, vs[i]? = some v → ws[i]? = some u → EqV H n v u) (hn : n ≤ 60) : CmpR w f .Eq (.ref a) (.ref b) H N true := by
  intro c s Q E d x y ok hx hy at' ret
  obtain ⟨m, news, F, Nw, hN, hH⟩ := at'
  (first | obtain rfl := hx.ri | obtain ⟨_, rfl⟩ := hx.ii | obtain rfl := hx.ni | obtain rfl := hx.mi | cases hx); (first | obtain rfl := hy.ri | obtain ⟨_, rfl⟩ := hy.ii | obtain rfl := hy.ni | obtain rfl := hy.mi | cases hy)
  obtain ⟨oa, ma, da⟩ := hH.get ha
  obtain ⟨ob, mb, db⟩ := hH.get hb
  have hu := units_ok ok
  obtain ⟨_, n1, rfl, d1⟩ := da.lst_inv
  obtain ⟨_, n2, rfl, d2⟩ := db.lst_inv
  have l1 := d1.length
  have l2 := d2.length
  refine eq_listAt (s := s) (e := fun _ => true) ⟨_, (Nw _ ma).1, rfl, _, rfl⟩ ⟨_, (Nw _ mb).1, rfl, _, rfl⟩ (by simp; omega) (by omega)
    (eqv_elems (n := 0) d1 d2 fun i v u x y hv hu' dv du => (h i v u hv hu').at' hH Nw dv du (by show (c.A f).units + 1 + _ < cLine; omega)) ?_
  rw [allT]; exact ret s.toks
theorem datInts {P : World} (ns : List Int) : DatHL P H (ns.map SV.int) (ns.map Dat.int) := by
  induction ns with
  | nil => exact .nil
  | cons n ns ih => exact .cons (.int n) ih
theorem kqd_ints (ns : List Int) : kqdOk 9 (.list (ns.map Dat.int)) = true := by
  simp [kqdOk]
theorem CmpR.neInts {a b : Addr} {ns ms : List Int} (ha : H a = some (intL ns)) (hb : H b = some (intL ms)) (h : ns = ms) : CmpR w f .NotEq (.ref a) (.ref b) H N false := by
  have := CmpR.neD (w := w) (f := f) (N := N) (DatH.lst (P := w) ha (datInts ns)) (DatH.lst hb (datInts ms)) (kqd_ints ns) (kqd_ints ms)
  subst h
  simpa using this
/-- urn = [0, script[:60], 0]: the list of the script is not of the ledger -/
theorem Ex.first {K : Fl → List SV → Hp → Prop} {x y : Str} {i j k1 k2 k3 : Nat} {xp p1 p2 p3 p4 p5 p6 p7 pos : Pos} {rest : List Stmt} {a : Addr} {c : Cx} {s : Shared} {Q : Flow → Shared → Prop} {E : Value → Shared → Prop} {ns : List Int} {vs : List Value}
    (hx' : VarAt f.vars i x) (hy' : VarAt f.vars j y) (hv : N[j]? = some (.ref a)) (hl : c.h₀.IsList a vs.toArray) (hI : IntsAre vs ns) (hz : ns.length ≤ 100000) (ok : Cx.Ok w d f c) (pe : PassesOwn (model PW w) (c.A f) (c.env f) E) (at' : At w f c N H s.heap)
    (h : ∀ D E', H D = none → H E' = none → D ≠ E' → Ex w d f (N.set i (.ref E')) ((H.set D (intL (ns.take 60))).set E' (.lst [.int 0, .ref D, .int 0])) rest K)
    (ret : ∀ fl y N' H' h' tk', K fl N' H' → FlDen fl y → At w f c N' H' h' → Q y { s with heap := h', toks := tk' })
    (hm : ∀ env, swapsWith (.List [.Constant (.int 0) k1 p1, .Subscript (.Name y p2) (.Slice none (some (.Constant (.int 60) k2 p3)) none p4) p5, .Constant (.int 0) k3 p6] p7) (some (.Name x xp)) pos.line env = pure false := by intros; with_unfolding_all exact rfl)
    (hs : ∀ a b, subscripted (.Slice none (some (.Constant (.int 60) k2 p3)) none p4) false (.ref a) (.ref b) = operate [.ref b, .ref a] (getItem (.ref a) (.ref b)) := by intros; with_unfolding_all exact rfl)
    (ht : ∀ a r, letTemporaryGo (.Name y p2) (.ref a) r = pure () := by intros; with_unfolding_all exact rfl) :
    wpAny (model PW w) (c.A f) (execs (.Assign [.Name x xp] (.List [.Constant (.int 0) k1 p1, .Subscript (.Name y p2) (.Slice none (some (.Constant (.int 60) k2 p3)) none p4) p5, .Constant (.int 0) k3 p6] p7) pos :: rest) (c.env f)) Q E s := by
  have hx := hx'.at'
  have hy := hy'.at'
  obtain ⟨m, news, F, Nw, hN, hH⟩ := at'
  obtain ⟨yv, hyv, hd⟩ := hN j y _ hy hv nofun
  (first | obtain rfl := hd.ri | obtain ⟨_, rfl⟩ := hd.ii | obtain rfl := hd.ni | obtain rfl := hd.mi | cases hd)
  have hlx := ok.g.loc x (List.mem_of_getElem? hx)
  have hly := ok.g.loc y (List.mem_of_getElem? hy)
  refine wpAny_execs_cons (wpAny_Assign_Name (List_ ?_) (hm _))
  refine args_cons (wpAny_Constant_int ?_) (starEach_plain rfl)
  refine args_cons (Subscript_ (nameX_L F hyv ?_ ok.g.hk hly.1 hly.2)) (starEach_plain rfl)
  refine wpAny_Slice (evalPart_none_step (evalPart_some_step (wpAny_Constant_int (evalPart_none_step ?_))))
  refine slice_to (s := { s with toks := _ }) F Nw ⟨_, F.keep _ _ hl.choose_spec.1, hl.choose_spec.2⟩ hI (by decide) hz (fun D ws h' hI' F' N' hl' => ?_) (hs _ _) (ht _)
  refine args_cons (wpAny_Constant_int ?_) (starEach_plain rfl)
  refine args_nil ?_
  refine newList_K (s := { s with heap := h', toks := _ }) F' N' (fun E' h2 F2 N2 hl2 => ?_) (by simp only [sizeLine]; simp)
  have hD : H D = none := hH.fresh hl'
  have hH1 : HOK w c.ex (H.set D (intL (ns.take 60))) _ := hH.new hl' (.lst 0 (of_ints hI'))
  have hE : (H.set D (intL (ns.take 60))) E' = none := hH1.fresh hl2
  have hne : D ≠ E' := Nat.ne_of_lt (hl2 _ List.mem_cons_self)
  refine storeX_L (s := { s with heap := h2, toks := _ }) F2 N2 (fun h3 F3 N3 => ?_) ok.g.hk hlx.1
  have hE0 : H E' = none := by
    cases q : H E' with
    | none => rfl
    | some o => rw [Hp.set_ne (Ne.symm hne) q] at hE; cases hE
  exact h D E' hD hE0 hne c { s with heap := h3, toks := _ } Q E ok pe ⟨_, _, F3, N3, hN.set ok.g.nd hx (.ref _), hH1.new hl2 (.lst 0 (.cons (.int _ _) (.cons (.ref _) (.cons (.int _ _) .nil))))⟩ ret
end
end Mine
end
section
-- Q18
open PySem PySem.W PyProof.Rows PyProof.Rows.LCg PySem.Calls PySem.SeqAt
set_option Elab.async false
set_option maxRecDepth 100000
set_option linter.unusedVariables false
namespace Mine
section
variable {w : World} {d : Nat} {f : FI} {N : List SV} {H : Hp}
/-- xs.append(e), a statement -/
theorem Ex.app {K : Fl → List SV → Hp → Prop} {o e : PySem.Expr} {a : Addr} {vs0 : List SV} {K1 : SV → Hp → Prop} {apos pos p0 : Pos} {rest : List Stmt} (ho : EvP w d f N H o (.ref a)) (hi : H a = some (.lst vs0)) (he : Ev w d f N H e K1)
    (h : ∀ v H1, K1 v H1 → ∃ vs, H1 a = some (.lst vs) ∧ vs.length ≤ 100000 ∧ Ex w d f N (H1.set a (.lst (vs ++ [v]))) rest K)
    (hm : ∀ env, ∃ pl, eval (.Call (.Attribute o (Str.ofString "append") apos) [e] [] pos) env = (do
      let ov ← eval o env
      standAt apos.atName
      let (g, first) ← holding [ov] (getMethod ov (Str.ofString "append") pl)
      callWith pos g first (backTo pos (starEach [e] env)) []) := by intros; with_unfolding_all exact ⟨_, rfl⟩)
    (h1 : ∀ env, starEach [e] env = (false, eval e env) :: starEach [] env := by intros; exact starEach_plain rfl)
    (hs : ∀ env, swapsWith (.Call (.Attribute o (Str.ofString "append") apos) [e] [] pos) none p0.line env = pure false := by intros; with_unfolding_all exact rfl) : Ex w d f N H (.Expr (.Call (.Attribute o (Str.ofString "append") apos) [e] [] pos) p0 :: rest) K :=
  Ex.expr (K1 := fun _ H2 => Ex w d f N H2 rest K) (Ev.append ho hi he h hm h1) (fun _ _ k => k) hs
/-- xs.append(e), e without effect -/
theorem Ex.appP {K : Fl → List SV → Hp → Prop} {o e : PySem.Expr} {a : Addr} {vs : List SV} {v : SV} {apos pos p0 : Pos} {rest : List Stmt} (ho : EvP w d f N H o (.ref a)) (hi : H a = some (.lst vs)) (he : EvP w d f N H e v) (hz : vs.length ≤ 100000)
    (h : Ex w d f N (H.set a (.lst (vs ++ [v]))) rest K)
    (hm : ∀ env, ∃ pl, eval (.Call (.Attribute o (Str.ofString "append") apos) [e] [] pos) env = (do
      let ov ← eval o env
      standAt apos.atName
      let (g, first) ← holding [ov] (getMethod ov (Str.ofString "append") pl)
      callWith pos g first (backTo pos (starEach [e] env)) []) := by intros; with_unfolding_all exact ⟨_, rfl⟩)
    (h1 : ∀ env, starEach [e] env = (false, eval e env) :: starEach [] env := by intros; exact starEach_plain rfl)
    (hs : ∀ env, swapsWith (.Call (.Attribute o (Str.ofString "append") apos) [e] [] pos) none p0.line env = pure false := by intros; with_unfolding_all exact rfl) : Ex w d f N H (.Expr (.Call (.Attribute o (Str.ofString "append") apos) [e] [] pos) p0 :: rest) K :=
  Ex.app ho hi he (fun v' H' k => by obtain ⟨rfl, rfl⟩ := k; exact ⟨vs, hi, hz, h⟩) hm h1 hs
/-- a comparison whose right side does things -/
theorem Ev.cmpK {l r : PySem.Expr} {op : CmpOp} {K1 : SV → Hp → Prop} {K2 : SV → SV → Hp → Prop} {K : SV → Hp → Prop} {pos : Pos} (hl : Ev w d f N H l K1) (hr : ∀ v H1, K1 v H1 → Ev w d f N H1 r (K2 v)) (h : ∀ a b H2, K2 a b H2 → ∃ v, CmpR w f op a b H2 N v ∧ K (.bool v) H2) (hm : behindInMarks op r = false := by with_unfolding_all exact rfl) : Ev w d f N H (.Compare l [op] [r] pos) K := by
  intro c s Q E ok at' ret
  refine wpAny_Compare1 (hl c s _ E ok at' ?_) hm
  intro v1 y1 H1 h1 tk1 hK hD1 at1
  refine hr v1 H1 hK c { s with heap := h1, toks := tk1 } _ E ok at1 ?_
  intro v2 y2 H2 h2 tk2 hK2 hD2 at2
  obtain ⟨b, ho, hK3⟩ := h _ _ _ hK2
  exact ho c { s with heap := h2, toks := tk2 } _ E d _ _ ok hD1 hD2 at2 fun tk' => ret _ _ H2 h2 tk' hK3 (.bool b) at2
end
end Mine
end
section
-- L0
namespace Mine
section
variable (lev : Int → Int)
noncomputable abbrev ltp (i j : Int) : Prop := lev i < lev j ∨ (lev i = lev j ∧ i < j)
noncomputable abbrev zL (a b : Int) : Int := cmpZ (lev a) (lev b)
theorem cmpZ_le {x y : Int} : cmpZ x y ≤ 0 ↔ x ≤ y := by unfold cmpZ; (repeat' split) <;> omega
theorem cmpZ_z {x y : Int} : cmpZ x y = 0 ↔ x = y := by unfold cmpZ; (repeat' split) <;> omega
theorem eq_of_sorted {R : Int → Int → Prop} (irr : ∀ x, ¬ R x x) (asy : ∀ x y, R x y → ¬ R y x) : ∀ {l l' : List Int}, l.Pairwise R → l'.Pairwise R → (∀ x, x ∈ l ↔ x ∈ l') → l = l'
  | [], [], _, _, _ => rfl
  | [], b :: bs, _, _, h => absurd ((h b).2 (List.mem_cons_self ..)) (by simp)
  | a :: as, [], _, _, h => absurd ((h a).1 (List.mem_cons_self ..)) (by simp)
  | a :: as, b :: bs, h1, h2, h => by
    have p1 := List.pairwise_cons.1 h1
    have p2 := List.pairwise_cons.1 h2
    have hab : a = b := by
      rcases List.mem_cons.1 ((h a).1 (List.mem_cons_self ..)) with e | e
      · exact e
      · rcases List.mem_cons.1 ((h b).2 (List.mem_cons_self ..)) with e' | e'
        · exact e'.symm
        · exact absurd (p1.1 b e') (asy _ _ (p2.1 a e))
    subst hab
    rw [eq_of_sorted irr asy p1.2 p2.2 fun x => ?_]
    constructor
    · intro hx
      rcases List.mem_cons.1 ((h x).1 (List.mem_cons_of_mem _ hx)) with e | e
      · subst e; exact absurd (p1.1 _ hx) (irr _)
      · exact e
    · intro hx
      rcases List.mem_cons.1 ((h x).2 (List.mem_cons_of_mem _ hx)) with e | e
      · subst e; exact absurd (p2.1 _ hx) (irr _)
      · exact e
theorem merge_mem0 : ∀ (n : Nat) (as bs : List Int), as.length + bs.length ≤ n → ∀ x, x ∈ mergeL (zL lev) false as bs ↔ x ∈ as ∨ x ∈ bs
  | 0, [], [], _, x => by rw [mergeL]; simp
  | 0, _ :: _, _, h, _ => by simp at h
  | 0, [], _ :: _, h, _ => by simp at h
  | n + 1, [], bs, _, x => by rw [mergeL]; simp
  | n + 1, a :: as, [], _, x => by rw [mergeL]; simp
  | n + 1, a :: as, b :: bs, h, x => by
    simp only [List.length_cons] at h
    rw [mergeL]
    split
    · rw [if_neg (by simp), List.mem_cons, merge_mem0 n as (b :: bs) (by simp; omega), List.mem_cons, List.mem_cons, or_assoc]
    · rw [List.mem_cons, merge_mem0 n (a :: as) bs (by simp; omega), List.mem_cons, List.mem_cons]
      constructor
      · rintro (q | (q | q) | q) <;> simp [q]
      · rintro ((q | q) | (q | q)) <;> simp [q]
theorem ltp_trans {a b c : Int} : ltp lev a b → ltp lev b c → ltp lev a c := by unfold ltp; omega
theorem merge_sort0 : ∀ (n : Nat) (as bs : List Int), as.length + bs.length ≤ n → as.Pairwise (ltp lev) → bs.Pairwise (ltp lev) → (∀ a ∈ as, ∀ b ∈ bs, a < b) → (mergeL (zL lev) false as bs).Pairwise (ltp lev)
  | 0, [], [], _, _, _, _ => by rw [mergeL]; exact .nil
  | 0, _ :: _, _, h, _, _, _ => by simp at h
  | 0, [], _ :: _, h, _, _, _ => by simp at h
  | n + 1, [], bs, _, _, h2, _ => by rw [mergeL]; exact h2
  | n + 1, a :: as, [], _, h1, _, _ => by rw [mergeL]; exact h1
  | n + 1, a :: as, b :: bs, h, h1, h2, hl => by
    simp only [List.length_cons] at h
    have p1 := List.pairwise_cons.1 h1
    have p2 := List.pairwise_cons.1 h2
    have hab := hl a (List.mem_cons_self ..) b (List.mem_cons_self ..)
    rw [mergeL]
    split
    · rename_i hz
      have hz := cmpZ_le.1 hz
      have lab : ltp lev a b := by unfold ltp; omega
      rw [if_neg (by simp)]
      refine List.pairwise_cons.2 ⟨fun x hx => ?_, merge_sort0 n as (b :: bs) (by simp; omega) p1.2 h2 fun x hx y hy => hl x (List.mem_cons_of_mem _ hx) y hy⟩
      rcases (merge_mem0 lev _ as (b :: bs) (Nat.le_refl _) x).1 hx with q | q
      · exact p1.1 x q
      · rcases List.mem_cons.1 q with q | q
        · subst q; exact lab
        · exact ltp_trans lev lab (p2.1 x q)
    · rename_i hz
      have hz : ¬ lev a ≤ lev b := fun q => hz (cmpZ_le.2 q)
      have lba : ltp lev b a := by unfold ltp; omega
      refine List.pairwise_cons.2 ⟨fun x hx => ?_, merge_sort0 n (a :: as) bs (by simp; omega) h1 p2.2 fun x hx y hy => hl x hx y (List.mem_cons_of_mem _ hy)⟩
      rcases (merge_mem0 lev _ (a :: as) bs (Nat.le_refl _) x).1 hx with q | q
      · rcases List.mem_cons.1 q with q | q
        · subst q; exact lba
        · exact ltp_trans lev lba (p1.1 x q)
      · exact p2.1 x q
noncomputable abbrev ltv (i j : Int) : Prop := lev i < lev j
theorem merge_mem1 : ∀ (n : Nat) (as bs : List Int), as.length + bs.length ≤ n → as.Pairwise (ltv lev) → bs.Pairwise (ltv lev) → ∀ x, x ∈ mergeL (zL lev) true as bs ↔ x ∈ as ∨ (x ∈ bs ∧ ∀ a ∈ as, lev a ≠ lev x)
  | 0, [], [], _, _, _, x => by rw [mergeL]; simp
  | 0, _ :: _, _, h, _, _, _ => by simp at h
  | 0, [], _ :: _, h, _, _, _ => by simp at h
  | n + 1, [], bs, _, _, _, x => by rw [mergeL]; simp
  | n + 1, a :: as, [], _, _, _, x => by rw [mergeL]; simp
  | n + 1, a :: as, b :: bs, h, h1, h2, x => by
    simp only [List.length_cons] at h
    have p1 := List.pairwise_cons.1 h1
    have p2 := List.pairwise_cons.1 h2
    rw [mergeL]
    split
    · rename_i hz
      have hz := cmpZ_le.1 hz
      split
      · rename_i he
        have he := cmpZ_z.1 he.1
        rw [List.mem_cons, merge_mem1 n as bs (by omega) p1.2 p2.2]
        simp only [List.mem_cons, forall_eq_or_imp]
        constructor
        · rintro (q | q | ⟨q, r⟩)
          · exact .inl (.inl q)
          · exact .inl (.inr q)
          · have := p2.1 x q
            exact .inr ⟨.inr q, by unfold ltv at this; omega, r⟩
        · rintro ((q | q) | ⟨q | q, r, t⟩)
          · exact .inl q
          · exact .inr (.inl q)
          · subst q; exact absurd he r
          · exact .inr (.inr ⟨q, t⟩)
      · rename_i he
        have he : ¬ lev a = lev b := fun q => he ⟨cmpZ_z.2 q, rfl⟩
        rw [List.mem_cons, merge_mem1 n as (b :: bs) (by simp; omega) p1.2 h2]
        simp only [List.mem_cons, forall_eq_or_imp]
        constructor
        · rintro (q | q | ⟨q, r⟩)
          · exact .inl (.inl q)
          · exact .inl (.inr q)
          · refine .inr ⟨q, ?_, r⟩
            rcases q with q | q
            · subst q; exact he
            · have := p2.1 x q; unfold ltv at this; omega
        · rintro ((q | q) | ⟨q, r, t⟩)
          · exact .inl q
          · exact .inr (.inl q)
          · exact .inr (.inr ⟨q, t⟩)
    · rename_i hz
      have hz : ¬ lev a ≤ lev b := fun q => hz (cmpZ_le.2 q)
      rw [List.mem_cons, merge_mem1 n (a :: as) bs (by simp; omega) h1 p2.2]
      simp only [List.mem_cons, forall_eq_or_imp]
      constructor
      · rintro (q | q | ⟨q, r⟩)
        · subst q
          refine .inr ⟨.inl rfl, by omega, fun y hy => ?_⟩
          have := p1.1 y hy; unfold ltv at this; omega
        · exact .inl q
        · exact .inr ⟨.inr q, r⟩
      · rintro (q | ⟨q | q, r⟩)
        · exact .inr (.inl q)
        · exact .inl q
        · exact .inr (.inr ⟨q, r⟩)
theorem merge_sort1 : ∀ (n : Nat) (as bs : List Int), as.length + bs.length ≤ n → as.Pairwise (ltv lev) → bs.Pairwise (ltv lev) → (mergeL (zL lev) true as bs).Pairwise (ltv lev)
  | 0, [], [], _, _, _ => by rw [mergeL]; exact .nil
  | 0, _ :: _, _, h, _, _ => by simp at h
  | 0, [], _ :: _, h, _, _ => by simp at h
  | n + 1, [], bs, _, _, h2 => by rw [mergeL]; exact h2
  | n + 1, a :: as, [], _, h1, _ => by rw [mergeL]; exact h1
  | n + 1, a :: as, b :: bs, h, h1, h2 => by
    simp only [List.length_cons] at h
    have p1 := List.pairwise_cons.1 h1
    have p2 := List.pairwise_cons.1 h2
    rw [mergeL]
    split
    · rename_i hz
      have hz := cmpZ_le.1 hz
      split
      · rename_i he
        have he := cmpZ_z.1 he.1
        refine List.pairwise_cons.2 ⟨fun x hx => ?_, merge_sort1 n as bs (by omega) p1.2 p2.2⟩
        rcases (merge_mem1 lev _ as bs (Nat.le_refl _) p1.2 p2.2 x).1 hx with q | q
        · exact p1.1 x q
        · have := p2.1 x q.1; unfold ltv at *; omega
      · rename_i he
        have he : ¬ lev a = lev b := fun q => he ⟨cmpZ_z.2 q, rfl⟩
        refine List.pairwise_cons.2 ⟨fun x hx => ?_, merge_sort1 n as (b :: bs) (by simp; omega) p1.2 h2⟩
        rcases (merge_mem1 lev _ as (b :: bs) (Nat.le_refl _) p1.2 h2 x).1 hx with q | q
        · exact p1.1 x q
        · rcases List.mem_cons.1 q.1 with q | q
          · subst q; unfold ltv; omega
          · have := p2.1 x q; unfold ltv at *; omega
    · rename_i hz
      have hz : ¬ lev a ≤ lev b := fun q => hz (cmpZ_le.2 q)
      refine List.pairwise_cons.2 ⟨fun x hx => ?_, merge_sort1 n (a :: as) bs (by simp; omega) h1 p2.2⟩
      rcases (merge_mem1 lev _ (a :: as) bs (Nat.le_refl _) h1 p2.2 x).1 hx with q | q
      · rcases List.mem_cons.1 q with q | q
        · subst q; unfold ltv; omega
        · have := p1.1 x q; unfold ltv at *; omega
      · exact p2.1 x q.1
/-- the law's own order: due -/
noncomputable def dueL (u : Bool) : List Int → List Int → List Int
  | acc, [] => acc
  | acc, i :: is => if u = false ∨ acc = [] ∨ lev (acc.getLastD 0) < lev i then dueL u (acc ++ [i]) is else dueL u acc is
theorem due0 : ∀ (is acc : List Int), dueL lev false acc is = acc ++ is
  | [], acc => by rw [dueL, List.append_nil]
  | i :: is, acc => by rw [dueL, if_pos (.inl rfl), due0 is, List.append_assoc, List.singleton_append]
theorem last_lt {acc : List Int} (hp : acc.Pairwise (ltv lev)) {i : Int} (h : acc = [] ∨ lev (acc.getLastD 0) < lev i) : ∀ y ∈ acc, lev y < lev i := by
  rcases h with rfl | h
  · simp
  · intro y hy
    rcases List.eq_nil_or_concat acc with rfl | ⟨l, b, rfl⟩
    · simp at hy
    · simp only [List.concat_eq_append] at hp h hy
      rw [List.getLastD_concat] at h
      rcases List.mem_append.1 hy with q | q
      · have := (List.pairwise_append.1 hp).2.2 y q b (List.mem_singleton.2 rfl)
        unfold ltv at this; omega
      · rw [List.mem_singleton.1 q]; exact h
theorem last_mem {acc : List Int} (h : ¬ acc = []) : acc.getLastD 0 ∈ acc := by
  rcases List.eq_nil_or_concat acc with rfl | ⟨l, b, rfl⟩
  · exact absurd rfl h
  · rw [List.concat_eq_append, List.getLastD_concat]; simp
theorem due1 : ∀ (is acc : List Int), is.Pairwise (ltp lev) → acc.Pairwise (ltv lev) → (∀ y ∈ acc, ∀ x ∈ is, lev y ≤ lev x) →
    (dueL lev true acc is).Pairwise (ltv lev) ∧ ∀ x, x ∈ dueL lev true acc is ↔ x ∈ acc ∨ (x ∈ is ∧ (∀ y ∈ acc, lev y < lev x) ∧ ∀ y ∈ is, lev y = lev x → x ≤ y)
  | [], acc, _, h2, _ => by rw [dueL]; exact ⟨h2, fun x => by simp⟩
  | i :: is, acc, h1, h2, h3 => by
    have p1 := List.pairwise_cons.1 h1
    rw [dueL]
    by_cases hc : acc = [] ∨ lev (acc.getLastD 0) < lev i
    · rw [if_pos (.inr hc)]
      have hlt := last_lt lev h2 hc
      have h2' : (acc ++ [i]).Pairwise (ltv lev) := List.pairwise_append.2 ⟨h2, List.pairwise_singleton .., fun y hy x hx => by rw [List.mem_singleton.1 hx]; exact hlt y hy⟩
      obtain ⟨q1, q2⟩ := due1 is (acc ++ [i]) p1.2 h2' fun y hy x hx => by
        rcases List.mem_append.1 hy with q | q
        · exact h3 y q x (List.mem_cons_of_mem _ hx)
        · rw [List.mem_singleton.1 q]; have := p1.1 x hx; unfold ltp at this; omega
      refine ⟨q1, fun x => ?_⟩
      rw [q2]
      constructor
      · rintro (q | ⟨q, r, t⟩)
        · rcases List.mem_append.1 q with q | q
          · exact .inl q
          · have := List.mem_singleton.1 q
            subst this
            refine .inr ⟨List.mem_cons_self .., hlt, fun y hy e => ?_⟩
            rcases List.mem_cons.1 hy with q | q
            · rw [q]; exact Int.le_refl _
            · have := p1.1 y q; unfold ltp at this; omega
        · refine .inr ⟨List.mem_cons_of_mem _ q, fun y hy => r y (List.mem_append_left _ hy), fun y hy e => ?_⟩
          rcases List.mem_cons.1 hy with w | w
          · have := r i (by simp); subst w; omega
          · exact t y w e
      · rintro (q | ⟨q, r, t⟩)
        · exact .inl (List.mem_append_left _ q)
        · rcases List.mem_cons.1 q with q | q
          · subst q; exact .inl (by simp)
          · have h4 := p1.1 x q
            have h5 := t i (List.mem_cons_self ..)
            have h6 : lev i < lev x := by unfold ltp at h4; omega
            refine .inr ⟨q, fun y hy => ?_, fun y hy e => t y (List.mem_cons_of_mem _ hy) e⟩
            rcases List.mem_append.1 hy with w | w
            · exact r y w
            · rw [List.mem_singleton.1 w]; exact h6
    · rw [if_neg (by rintro (q | q); (· cases q); exact hc q)]
      have hne : ¬ acc = [] := fun q => hc (.inl q)
      have hle : lev i ≤ lev (acc.getLastD 0) := by
        have : ¬ lev (acc.getLastD 0) < lev i := fun q => hc (.inr q)
        omega
      have hm := last_mem hne
      obtain ⟨q1, q2⟩ := due1 is acc p1.2 h2 fun y hy x hx => h3 y hy x (List.mem_cons_of_mem _ hx)
      refine ⟨q1, fun x => ?_⟩
      rw [q2]
      constructor
      · rintro (q | ⟨q, r, t⟩)
        · exact .inl q
        · refine .inr ⟨List.mem_cons_of_mem _ q, r, fun y hy e => ?_⟩
          rcases List.mem_cons.1 hy with w | w
          · have := r _ hm; subst w; omega
          · exact t y w e
      · rintro (q | ⟨q, r, t⟩)
        · exact .inl q
        · rcases List.mem_cons.1 q with q | q
          · subst q; have := r _ hm; omega
          · exact .inr ⟨q, r, fun y hy e => t y (List.mem_cons_of_mem _ hy) e⟩
noncomputable abbrev asc (u : Bool) (i j : Int) : Prop := if u then lev i < lev j else lev i ≤ lev j
theorem pair_and {α : Type} {R S T : α → α → Prop} (h : ∀ a b, R a b → S a b → T a b) : ∀ {l : List α}, l.Pairwise R → l.Pairwise S → l.Pairwise T
  | [], _, _ => .nil
  | _ :: _, h1, h2 => .cons (fun x hx => h _ _ ((List.pairwise_cons.1 h1).1 x hx) ((List.pairwise_cons.1 h2).1 x hx)) (pair_and h (List.pairwise_cons.1 h1).2 (List.pairwise_cons.1 h2).2)
theorem law_plain {u : Bool} {a b c S : List Int} (hi : (a ++ b ++ c).Pairwise (· < ·)) (ha : a.Pairwise (asc lev u)) (hb : b.Pairwise (asc lev u)) (hc : c.Pairwise (asc lev u)) (hS : S.Pairwise (ltp lev)) (hm : ∀ x, x ∈ S ↔ x ∈ a ++ b ++ c) :
    mergeL (zL lev) u (mergeL (zL lev) u a b) c = dueL lev u [] S ∧ mergeL (zL lev) u a (mergeL (zL lev) u b c) = dueL lev u [] S := by
  obtain ⟨iab, ic, iabc⟩ := List.pairwise_append.1 hi
  obtain ⟨ia, ib, jab⟩ := List.pairwise_append.1 iab
  have jac : ∀ x ∈ a, ∀ y ∈ c, x < y := fun x hx y hy => iabc x (List.mem_append_left _ hx) y hy
  have jbc : ∀ x ∈ b, ∀ y ∈ c, x < y := fun x hx y hy => iabc x (List.mem_append_right _ hx) y hy
  cases u with
  | false =>
    have k : ∀ {l : List Int}, l.Pairwise (· < ·) → l.Pairwise (asc lev false) → l.Pairwise (ltp lev) := fun h1 h2 => pair_and (fun x y q r => by simp only [asc] at r; unfold ltp; simp at r; omega) h1 h2
    have a' := k ia ha
    have b' := k ib hb
    have c' := k ic hc
    rw [due0, List.nil_append]
    have irr : ∀ x, ¬ ltp lev x x := fun x => by unfold ltp; omega
    have asy : ∀ x y, ltp lev x y → ¬ ltp lev y x := fun x y => by unfold ltp; omega
    have mab := merge_mem0 lev _ a b (Nat.le_refl _)
    have mbc := merge_mem0 lev _ b c (Nat.le_refl _)
    constructor
    · refine eq_of_sorted irr asy (merge_sort0 lev _ _ _ (Nat.le_refl _) (merge_sort0 lev _ _ _ (Nat.le_refl _) a' b' jab) c' fun x hx y hy => ?_) hS fun x => ?_
      · rcases (mab x).1 hx with q | q
        · exact jac x q y hy
        · exact jbc x q y hy
      · rw [merge_mem0 lev _ _ _ (Nat.le_refl _), mab, hm, List.mem_append, List.mem_append]
    · refine eq_of_sorted irr asy (merge_sort0 lev _ _ _ (Nat.le_refl _) a' (merge_sort0 lev _ _ _ (Nat.le_refl _) b' c' jbc) fun x hx y hy => ?_) hS fun x => ?_
      · rcases (mbc y).1 hy with q | q
        · exact jab x hx y q
        · exact jac x hx y q
      · rw [merge_mem0 lev _ _ _ (Nat.le_refl _), mbc, hm, List.mem_append, List.mem_append, or_assoc]
  | true =>
    have k : ∀ {l : List Int}, l.Pairwise (asc lev true) → l.Pairwise (ltv lev) := fun h => h.imp fun {x y} r => by simpa [asc] using r
    have a' := k ha
    have b' := k hb
    have c' := k hc
    have irr : ∀ x, ¬ ltv lev x x := fun x => by unfold ltv; omega
    have asy : ∀ x y, ltv lev x y → ¬ ltv lev y x := fun x y => by unfold ltv; omega
    obtain ⟨sd, md⟩ := due1 lev S [] hS .nil (by simp)
    have mab := merge_mem1 lev _ a b (Nat.le_refl _) a' b'
    have mbc := merge_mem1 lev _ b c (Nat.le_refl _) b' c'
    have sab := merge_sort1 lev _ a b (Nat.le_refl _) a' b'
    have sbc := merge_sort1 lev _ b c (Nat.le_refl _) b' c'
    have inj : ∀ {l : List Int}, l.Pairwise (ltv lev) → ∀ x ∈ l, ∀ y ∈ l, lev y = lev x → x ≤ y := fun {l} h x hx y hy e => by
      induction h with
      | nil => cases hx
      | cons h1 _ ih =>
        rcases List.mem_cons.1 hx with rfl | hx' <;> rcases List.mem_cons.1 hy with rfl | hy'
        · exact Int.le_refl _
        · have := h1 _ hy'; unfold ltv at this; omega
        · have := h1 _ hx'; unfold ltv at this; omega
        · exact ih hx' hy'
    have mem : ∀ x, x ∈ dueL lev true [] S ↔ x ∈ a ∨ (x ∈ b ∧ ∀ y ∈ a, lev y ≠ lev x) ∨ (x ∈ c ∧ (∀ y ∈ a, lev y ≠ lev x) ∧ ∀ y ∈ b, lev y ≠ lev x) := fun x => by
      rw [md]
      constructor
      · rintro (q | ⟨q, _, t⟩)
        · cases q
        · have t' : ∀ y ∈ a ++ b ++ c, lev y = lev x → x ≤ y := fun y hy => t y ((hm y).2 hy)
          rcases List.mem_append.1 ((hm x).1 q) with q | q
          · rcases List.mem_append.1 q with q | q
            · exact .inl q
            · exact .inr (.inl ⟨q, fun y hy e => by have := t' y (by simp [hy]) e; have := jab y hy x q; omega⟩)
          · exact .inr (.inr ⟨q, fun y hy e => by have := t' y (by simp [hy]) e; have := jac y hy x q; omega, fun y hy e => by have := t' y (by simp [hy]) e; have := jbc y hy x q; omega⟩)
      · intro h
        refine .inr ⟨(hm x).2 ?_, by simp, fun y hy e => ?_⟩
        · rcases h with q | q | q
          · simp [q]
          · simp [q.1]
          · simp [q.1]
        · have hy' := (hm y).1 hy
          rcases h with q | ⟨q, r⟩ | ⟨q, r, t⟩ <;> rcases List.mem_append.1 hy' with w | w
          · rcases List.mem_append.1 w with w | w
            · exact inj a' x q y w e
            · exact Int.le_of_lt (jab x q y w)
          · exact Int.le_of_lt (jac x q y w)
          · rcases List.mem_append.1 w with w | w
            · exact absurd e (r y w)
            · exact inj b' x q y w e
          · exact Int.le_of_lt (jbc x q y w)
          · rcases List.mem_append.1 w with w | w
            · exact absurd e (r y w)
            · exact absurd e (t y w)
          · exact inj c' x q y w e
    constructor
    · refine eq_of_sorted irr asy (merge_sort1 lev _ _ _ (Nat.le_refl _) sab c') sd fun x => ?_
      rw [mem, merge_mem1 lev _ _ _ (Nat.le_refl _) sab c', mab]
      have key : (∀ y ∈ mergeL (zL lev) true a b, lev y ≠ lev x) ↔ (∀ y ∈ a, lev y ≠ lev x) ∧ ∀ y ∈ b, lev y ≠ lev x := by
        constructor
        · intro h
          have h1 : ∀ y ∈ a, lev y ≠ lev x := fun y hy => h y ((mab y).2 (.inl hy))
          exact ⟨h1, fun y hy e => h y ((mab y).2 (.inr ⟨hy, fun y' hy' e' => h1 y' hy' (e'.trans e)⟩)) e⟩
        · rintro ⟨h1, h2⟩ y hy
          rcases (mab y).1 hy with q | q
          · exact h1 y q
          · exact h2 y q.1
      rw [key, or_assoc]
    · refine eq_of_sorted irr asy (merge_sort1 lev _ _ _ (Nat.le_refl _) a' sbc) sd fun x => ?_
      rw [mem, merge_mem1 lev _ _ _ (Nat.le_refl _) a' sbc, mbc]
      constructor
      · rintro (q | ⟨q | ⟨q, r⟩, t⟩)
        · exact .inl q
        · exact .inr (.inl ⟨q, t⟩)
        · exact .inr (.inr ⟨q, t, r⟩)
      · rintro (q | ⟨q, t⟩ | ⟨q, t, r⟩)
        · exact .inl q
        · exact .inr ⟨.inl q, t⟩
        · exact .inr ⟨.inr ⟨q, r⟩, t⟩
end
end Mine
end
section
-- L2
open PySem PySem.W PyProof.Rows
set_option Elab.async false
set_option maxRecDepth 100000
set_option linter.unusedVariables false
namespace Mine
/-- the level of an index -/
noncomputable def levF (lv : List Int) (i : Int) : Int := lv.getD i.toNat 0
theorem levF_app {lv : List Int} {z : Int} {i : Int} (h0 : 0 ≤ i) (h : i < lv.length) : levF (lv ++ [z]) i = levF lv i := by
  unfold levF
  rw [List.getD_eq_getElem?_getD, List.getD_eq_getElem?_getD, List.getElem?_append_left (by omega)]
theorem levF_new {lv : List Int} {z : Int} : levF (lv ++ [z]) (lv.length : Int) = z := by
  unfold levF
  rw [List.getD_eq_getElem?_getD, Int.toNat_natCast, List.getElem?_append_right (Nat.le_refl _)]; simp
theorem levF_get {lv : List Int} {i : Int} (h0 : 0 ≤ i) (h : i < lv.length) : lv[i.toNat]? = some (levF lv i) := by
  unfold levF
  rw [List.getD_eq_getElem?_getD, List.getElem?_eq_getElem (by omega)]; rfl
/-- one turn's run and the run without its repeats -/
structure PT where
  ra : Addr
  is : List Int
  sa : Addr
  js : List Int
noncomputable def catR : List PT → List Int
  | [] => []
  | p :: r => catR r ++ p.is
noncomputable def catS : List PT → List Int
  | [] => []
  | p :: r => catS r ++ p.js
noncomputable def upTo (n : Nat) : List Int := (List.range n).map fun i : Nat => (i : Int)
theorem upTo_succ (n : Nat) : upTo (n + 1) = upTo n ++ [(n : Int)] := by unfold upTo; rw [List.range_succ, List.map_append]; rfl
theorem upTo_mem {n : Nat} {x : Int} : x ∈ upTo n ↔ 0 ≤ x ∧ x < n := by
  unfold upTo
  rw [List.mem_map]
  constructor
  · rintro ⟨i, hi, rfl⟩; rw [List.mem_range] at hi; omega
  · rintro ⟨h1, h2⟩; exact ⟨x.toNat, List.mem_range.2 (by omega), by omega⟩
theorem upTo_asc (n : Nat) : (upTo n).Pairwise (· < ·) := by
  induction n with
  | zero => exact List.Pairwise.nil
  | succ n ih =>
    rw [upTo_succ]
    exact List.pairwise_append.2 ⟨ih, List.pairwise_singleton .., fun a ha b hb => by rw [List.mem_singleton.1 hb]; exact (upTo_mem.1 ha).2⟩
/-- a run of indexes -/
noncomputable def AscS (lv : List Int) (u : Bool) (l : List Int) : Prop := l.Pairwise (asc (levF lv) u) ∧ ∀ x ∈ l, 0 ≤ x ∧ x < lv.length
theorem pair_mem {α : Type} {R S : α → α → Prop} {l : List α} (h : l.Pairwise R) (k : ∀ a ∈ l, ∀ b ∈ l, R a b → S a b) : l.Pairwise S := by
  induction h with
  | nil => exact .nil
  | cons h1 _ ih => exact .cons (fun b hb => k _ List.mem_cons_self b (List.mem_cons_of_mem _ hb) (h1 b hb)) (ih fun a ha b hb => k a (List.mem_cons_of_mem _ ha) b (List.mem_cons_of_mem _ hb))
theorem AscS.app {lv : List Int} {u : Bool} {l : List Int} (h : AscS lv u l) (z : Int) : AscS (lv ++ [z]) u l := by
  refine ⟨pair_mem h.1 fun a ha b hb q => ?_, fun x hx => ?_⟩
  · have h1 := h.2 a ha
    have h2 := h.2 b hb
    unfold asc at q ⊢
    rw [levF_app h1.1 h1.2, levF_app h2.1 h2.2]; exact q
  · have := h.2 x hx; rw [List.length_append]; simp; omega
/-- between two turns -/
structure PureOk (lv : List Int) (P : List PT) : Prop where
  cr : catR P = upTo lv.length
  cs : (catS P).Pairwise (· < ·)
  cb : ∀ x ∈ catS P, 0 ≤ x ∧ x < lv.length
  lb : ∀ z ∈ lv, 0 ≤ z ∧ z ≤ 8
  ea : ∀ p ∈ P, AscS lv false p.is ∧ AscS lv true p.js ∧ p.is ≠ [] ∧ p.js ≠ [] ∧ p.is.length ≤ 4 ∧ p.js.length ≤ 4
/-- in a turn, after i steps -/
structure PureIn (lv : List Int) (P : List PT) (is js : List Int) (L : Int) (i : Nat) : Prop where
  cr : catR P ++ is = upTo lv.length
  cs : (catS P ++ js).Pairwise (· < ·)
  cb : ∀ x ∈ catS P ++ js, 0 ≤ x ∧ x < lv.length
  lb : ∀ z ∈ lv, 0 ≤ z ∧ z ≤ 8
  ea : ∀ p ∈ P, AscS lv false p.is ∧ AscS lv true p.js ∧ p.is ≠ [] ∧ p.js ≠ [] ∧ p.is.length ≤ 4 ∧ p.js.length ≤ 4
  ai : AscS lv false is
  aj : AscS lv true js
  l0 : 0 ≤ L
  l8 : L ≤ 8
  bi : ∀ x ∈ is, levF lv x ≤ L
  bj : ∀ x ∈ js, levF lv x ≤ L
  nn : is ≠ [] → js ≠ [] ∧ levF lv ((lv.length : Int) - 1) = L
  n0 : is = [] → js = []
  ln : is.length = i
  lj : js.length ≤ i
theorem PureOk.start {lv : List Int} {P : List PT} (h : PureOk lv P) : PureIn lv P [] [] 0 0 :=
  ⟨by rw [List.append_nil]; exact h.cr, by rw [List.append_nil]; exact h.cs, by rw [List.append_nil]; exact h.cb, h.lb, h.ea, ⟨.nil, by simp⟩, ⟨.nil, by simp⟩, by omega, by omega, by simp, by simp, by simp, fun _ => rfl, rfl, by simp⟩
theorem PureIn.stop {lv : List Int} {P : List PT} {is js : List Int} {L : Int} {i : Nat} (h : PureIn lv P is js L i) (hi : 0 < i) (h4 : i ≤ 4) (ra sa : Addr) : PureOk lv (⟨ra, is, sa, js⟩ :: P) := by
  have hne : is ≠ [] := fun q => by have := h.ln; rw [q] at this; simp at this; omega
  refine ⟨h.cr, h.cs, h.cb, h.lb, fun p hp => ?_⟩
  rcases List.mem_cons.1 hp with rfl | hp
  · exact ⟨h.ai, h.aj, hne, (h.nn hne).1, by have := h.ln; show is.length ≤ 4; omega, by have := h.lj; show js.length ≤ 4; omega⟩
  · exact h.ea p hp
theorem asc_snoc {lv : List Int} {u : Bool} {l : List Int} {z : Int} (h : AscS lv u l) (hb : ∀ x ∈ l, if u then levF lv x < z else levF lv x ≤ z) : AscS (lv ++ [z]) u (l ++ [(lv.length : Int)]) := by
  refine ⟨List.pairwise_append.2 ⟨(h.app z).1, List.pairwise_singleton .., fun a ha b hb' => ?_⟩, fun x hx => ?_⟩
  · rw [List.mem_singleton.1 hb']
    have h1 := h.2 a ha
    unfold asc
    rw [levF_app h1.1 h1.2, levF_new]
    exact hb a ha
  · rcases List.mem_append.1 hx with hx | hx
    · exact (h.app z).2 x hx
    · rw [List.mem_singleton.1 hx, List.length_append]; simp; omega
theorem lt_snoc {l : List Int} {n : Nat} (h : l.Pairwise (· < ·)) (hb : ∀ x ∈ l, 0 ≤ x ∧ x < n) : (l ++ [(n : Int)]).Pairwise (· < ·) :=
  List.pairwise_append.2 ⟨h, List.pairwise_singleton .., fun a ha b hb' => by rw [List.mem_singleton.1 hb']; exact (hb a ha).2⟩
theorem bnd_app {lv : List Int} {l : List Int} {z : Int} (h : ∀ x ∈ l, 0 ≤ x ∧ x < lv.length) : ∀ x ∈ l, 0 ≤ x ∧ x < (lv ++ [z]).length := fun x hx => by
  have := h x hx; rw [List.length_append]; simp; omega
theorem ea_app {lv : List Int} {P : List PT} (z : Int) (h : ∀ p ∈ P, AscS lv false p.is ∧ AscS lv true p.js ∧ p.is ≠ [] ∧ p.js ≠ [] ∧ p.is.length ≤ 4 ∧ p.js.length ≤ 4) : ∀ p ∈ P, AscS (lv ++ [z]) false p.is ∧ AscS (lv ++ [z]) true p.js ∧ p.is ≠ [] ∧ p.js ≠ [] ∧ p.is.length ≤ 4 ∧ p.js.length ≤ 4 :=
  fun p hp => ⟨(h p hp).1.app z, (h p hp).2.1.app z, (h p hp).2.2⟩
theorem lb_app {lv : List Int} {z : Int} (h : ∀ x ∈ lv, 0 ≤ x ∧ x ≤ 8) (h0 : 0 ≤ z) (h8 : z ≤ 8) : ∀ x ∈ lv ++ [z], 0 ≤ x ∧ x ≤ 8 := fun x hx => by
  rcases List.mem_append.1 hx with hx | hx
  · exact h x hx
  · rw [List.mem_singleton.1 hx]; exact ⟨h0, h8⟩
theorem PureIn.bi' {lv : List Int} {P : List PT} {is js : List Int} {L : Int} {i : Nat} (h : PureIn lv P is js L i) {z : Int} (hz : L ≤ z) : ∀ x ∈ is ++ [(lv.length : Int)], levF (lv ++ [z]) x ≤ z := fun x hx => by
  rcases List.mem_append.1 hx with hx | hx
  · have h1 := h.ai.2 x hx; rw [levF_app h1.1 h1.2]; have := h.bi x hx; omega
  · rw [List.mem_singleton.1 hx, levF_new]; exact Int.le_refl _
theorem PureIn.last {lv : List Int} {z : Int} : levF (lv ++ [z]) (((lv ++ [z]).length : Int) - 1) = z := by
  rw [List.length_append]; simp only [List.length_cons, List.length_nil]
  rw [show (((lv.length + (0 + 1) : Nat) : Int) - 1) = (lv.length : Int) from by omega, levF_new]
/-- a step at which the level rises, or the first -/
theorem PureIn.up {lv : List Int} {P : List PT} {is js : List Int} {L : Int} {i : Nat} (h : PureIn lv P is js L i) {z : Int} (hz : L ≤ z) (h8 : z ≤ 8) (hc : is = [] ∨ levF lv ((lv.length : Int) - 1) < z) :
    PureIn (lv ++ [z]) P (is ++ [(lv.length : Int)]) (js ++ [(lv.length : Int)]) z (i + 1) := by
  have hlt : ∀ x ∈ js, levF lv x < z := fun x hx => by
    have := h.bj x hx
    by_cases hi : is = []
    · rw [h.n0 hi] at hx; cases hx
    · have h1 := (h.nn hi).2
      rcases hc with hc | hc
      · exact absurd hc hi
      · omega
  refine ⟨?_, ?_, ?_, lb_app h.lb (by have := h.l0; omega) h8, ea_app z h.ea, asc_snoc h.ai fun x hx => ?_, asc_snoc h.aj fun x hx => ?_, by have := h.l0; omega, h8, h.bi' hz, fun x hx => ?_, fun _ => ⟨by simp, PureIn.last⟩, by simp, by rw [List.length_append, h.ln]; rfl, by have := h.lj; rw [List.length_append]; simp; omega⟩
  · rw [← List.append_assoc, h.cr, List.length_append]; exact (upTo_succ _).symm
  · rw [← List.append_assoc]; exact lt_snoc h.cs h.cb
  · intro x hx
    rw [← List.append_assoc] at hx
    rcases List.mem_append.1 hx with hx | hx
    · exact bnd_app h.cb x hx
    · rw [List.mem_singleton.1 hx, List.length_append]; simp; omega
  · have := h.bi x hx; simp; omega
  · simp; exact hlt x hx
  · rcases List.mem_append.1 hx with hx | hx
    · have h1 := h.aj.2 x hx; rw [levF_app h1.1 h1.2]; have := h.bj x hx; omega
    · rw [List.mem_singleton.1 hx, levF_new]; exact Int.le_refl _
/-- a step at which the level stays -/
theorem PureIn.stay {lv : List Int} {P : List PT} {is js : List Int} {L : Int} {i : Nat} (h : PureIn lv P is js L i) {z : Int} (hz : L ≤ z) (h8 : z ≤ 8) (hi : is ≠ []) (hc : ¬ levF lv ((lv.length : Int) - 1) < z) :
    PureIn (lv ++ [z]) P (is ++ [(lv.length : Int)]) js z (i + 1) := by
  have h1 := (h.nn hi).2
  refine ⟨?_, h.cs, bnd_app h.cb, lb_app h.lb (by have := h.l0; omega) h8, ea_app z h.ea, asc_snoc h.ai fun x hx => ?_, h.aj.app z, by have := h.l0; omega, h8, h.bi' hz, fun x hx => ?_, fun _ => ⟨(h.nn hi).1, PureIn.last⟩, by simp, by rw [List.length_append, h.ln]; rfl, by have := h.lj; omega⟩
  · rw [← List.append_assoc, h.cr, List.length_append]; exact (upTo_succ _).symm
  · have := h.bi x hx; simp; omega
  · have h1 := h.aj.2 x hx; rw [levF_app h1.1 h1.2]; have := h.bj x hx; omega
end Mine
end
section
open PySem PySem.W PyProof.Rows
set_option Elab.async false
set_option maxRecDepth 100000
set_option linter.unusedVariables false
set_option rowWalk.seconds 0
set_option maxHeartbeats 4000000
namespace Mine
local macro_rules | `(tactic| wtm_at "q_ib") => `(tactic| (intro hb9; (try simp only [beq_iff_eq, beq_eq_false_iff_ne, decide_eq_true_eq, decide_eq_false_iff_not, bne_iff_ne, bne_eq_false_iff_eq, ne_eq, Bool.and_eq_true, Bool.or_eq_true, Bool.or_eq_false_iff, Bool.and_eq_false_iff, true_and, and_true, false_and, and_false, true_or, or_true, false_or, or_false, not_true_eq_false, not_false_eq_true] at hb9)))
local macro_rules | `(tactic| wtm_at "q_no") => `(tactic| (intro hb9; exfalso; revert hb9; first | decide | (simp only [beq_iff_eq, beq_eq_false_iff_ne, decide_eq_true_eq, decide_eq_false_iff_not, bne_iff_ne, bne_eq_false_iff_eq, ne_eq, Bool.and_eq_true, Bool.or_eq_true, Bool.or_eq_false_iff, Bool.and_eq_false_iff, true_and, and_true, false_and, and_false, true_or, or_true, false_or, or_false, not_true_eq_false, not_false_eq_true] <;> omega)))
local macro_rules | `(tactic| wtm_at "q_vat") => `(tactic| first | (with_reducible exact VarAt.here) | (refine' VarAt.there ?t; (case t => wtm_at "q_vat")))
local macro_rules | `(tactic| wtm_at "q_hp") => `(tactic| first | with_reducible assumption | exact Hp.set_eq | exact Base.st (by assumption) | exact Base.sx (by assumption) | exact Base.bk (by assumption) | exact Base.bx (by assumption))
local macro_rules | `(tactic| wtm_at "q_num") => `(tactic| first | omega | decide | with_reducible assumption)
local macro_rules | `(tactic| wtm_at "q_get") => `(tactic| first | with_reducible rfl | rfl | with_reducible assumption)
local macro_rules | `(tactic| wtm_at "q_cmp") => `(tactic| with_reducible first | exact CmpR.eq | exact CmpR.ne | exact CmpR.lt | exact CmpR.le | exact CmpR.gt | exact CmpR.ge | exact CmpR.ltS | exact CmpR.gtS | exact CmpR.eqC (by wtm_at "q_hp") (by wtm_at "q_hp") | exact CmpR.ltC (by wtm_at "q_hp") (by wtm_at "q_hp") (by assumption) | exact CmpR.gtC (by wtm_at "q_hp") (by wtm_at "q_hp") (by assumption) | assumption)
local macro_rules | `(tactic| wtm_at "q_glob") => `(tactic| with_reducible first
  | exact g_REF rfl | exact g_SRF rfl | exact g_STR rfl | exact g_LIS rfl | exact g_CON rfl | exact g_INT rfl | exact g_FUN rfl | exact g_F_DOT rfl
  | exact g_rank rfl | exact g_order rfl | exact g_compare_shapes rfl | exact g_compare_tops rfl | exact g_compare rfl | exact g_merge rfl | exact g_push_pairs rfl | exact g_law_pick rfl | exact g_law_key rfl | exact g_PairSet rfl | exact g_Symbols rfl | exact g_Store rfl | exact g_fixed_atoms rfl | exact g_fixed_functors rfl)
local macro_rules | `(tactic| wtm_at "q_ca") => `(tactic| with_reducible first | exact ca_380_heap | exact ca_380_symbols | exact ca_380_stack | exact ca_380_max_heap | exact ca_380_trail | exact ca_380_hb | exact ca_154_texts | exact ca_154_functors | exact ca_154_atom_numbers | exact ca_154_functor_numbers | exact ca_406_span | exact ca_406_met)
local macro_rules | `(tactic| wtm_at "q_ev") => `(tactic| first
  | with_reducible exact Ev.int
  | with_reducible exact Ev.str
  | with_reducible exact Ev.bool
  | ((with_reducible refine' Ev.loc ?x ?v ?n); (case x => wtm_at "q_vat"); (case v => exact rfl); (case n => exact nofun))
  | wtm_at "q_glob"
  | ((with_reducible refine' Ev.attr ?e ?a ?d ?x ?c); (case e => wtm_at "q_ev"); (case a => wtm_at "q_hp"); (case d => wtm_at "q_hp"); (case x => exact rfl); (case c => wtm_at "q_ca"))
  | ((with_reducible refine' Ev.itemT ?e ?i ?a ?l ?h ?g); (case e => wtm_at "q_ev"); (case i => wtm_at "q_ev"); (case a => wtm_at "q_hp"); (case l => decide); (case h => decide); (case g => exact rfl))
  | ((with_reducible refine' Ev.itemL ?e ?i ?a ?l ?h ?g); (case e => wtm_at "q_ev"); (case i => wtm_at "q_ev"); (case a => wtm_at "q_hp"); (case l => wtm_at "q_num"); (case h => wtm_at "q_num"); (case g => wtm_at "q_get"))
  | ((with_reducible refine' Ev.add ?e ?i); (case e => wtm_at "q_ev"); (case i => wtm_at "q_ev"))
  | ((with_reducible refine' Ev.sub ?e ?i); (case e => wtm_at "q_ev"); (case i => wtm_at "q_ev"))
  | ((with_reducible refine' Ev.neg ?e); (case e => wtm_at "q_ev"))
  | ((with_reducible refine' Ev.cmp ?e ?i ?o); (case e => wtm_at "q_ev"); (case i => wtm_at "q_ev"); (case o => wtm_at "q_cmp"))
  | ((with_reducible refine' EvB.cmp ?e ?i ?o); (case e => wtm_at "q_ev"); (case i => wtm_at "q_ev"); (case o => wtm_at "q_cmp"))
  | ((with_reducible refine' Ev.len ?k ?e ?a ?z); (case k => exact rfl); (case e => wtm_at "q_ev"); (case a => wtm_at "q_hp"); (case z => first | omega | (simp only [List.length_append, List.length_map, List.length_cons, List.length_nil]; omega)))
  | with_reducible exact EvL.nil
  | ((with_reducible refine' EvL.cons ?e ?i); (case e => wtm_at "q_ev"); (case i => wtm_at "q_ev"))
  | ((with_reducible refine' EvB.and2 ?e ?i); (case e => wtm_at "q_ev"); (case i => (wtm_at "q_ib"; wtm_at "q_ev")))
  | ((with_reducible refine' EvB.or2 ?e ?i); (case e => wtm_at "q_ev"); (case i => (wtm_at "q_ib"; wtm_at "q_ev")))
  | ((with_reducible refine' Ev.or2 ?e ?i); (case e => wtm_at "q_ev"); (case i => (wtm_at "q_ib"; wtm_at "q_ev")))
  | wtm_at "q_evcall"
  | ((with_reducible refine' EvB.val ?e); (case e => wtm_at "q_ev")))
local macro_rules | `(tactic| wtm_at "q_fn") => `(tactic| with_reducible first | exact fn_424 | exact fn_431 | exact fn_438 | exact fn_445 | exact fn_452 | exact fn_459 | exact fn_417 | exact fn_466 | exact fn_473 | exact fn_406 | exact fn_380 | exact fn_154 | exact fn_60 | exact fn_67)
local macro_rules | `(tactic| wtm_at "q_cm") => `(tactic| with_reducible first | exact cm_380_deref | exact cm_380_functor_of | exact cm_380_is_compound | exact cm_380_width | exact cm_380_base | exact cm_380_push | exact cm_380_new_var | exact cm_380_reserve | exact cm_380_globalise | exact cm_380_new_block | exact cm_380_new_struct | exact cm_154_atom | exact cm_154_text | exact cm_154_functor | exact cm_154_func | exact cm_154_name | exact cm_154_arity | exact cm_406_add)
local macro_rules | `(tactic| wtm_at "q_evcall") => `(tactic| first
  | ((with_reducible refine' Ev.call ?f ?k ?a ?c ?d); (case f => wtm_at "q_glob"); (case k => wtm_at "q_fn"); (case a => wtm_at "q_ev"); (case c => wtm_at "q_sp"); (case d => decide))
  | ((with_reducible refine' Ev.meth ?o ?i ?dx ?x ?c ?a ?s ?d); (case o => wtm_at "q_ev"); (case i => wtm_at "q_hp"); (case dx => wtm_at "q_hp"); (case x => exact rfl); (case c => wtm_at "q_cm"); (case a => wtm_at "q_ev"); (case s => wtm_at "q_sp"); (case d => decide))
  | ((with_reducible refine' Ev.meth0 ?o ?i ?dx ?x ?c ?s ?d); (case o => wtm_at "q_ev"); (case i => wtm_at "q_hp"); (case dx => wtm_at "q_hp"); (case x => exact rfl); (case c => wtm_at "q_cm"); (case s => wtm_at "q_sp"); (case d => decide)))
local macro_rules | `(tactic| wtm_at "q_sp") => `(tactic| with_reducible assumption)
local macro_rules | `(tactic| wtm_at "q_bind") => `(tactic| (intro ys hd; first | (obtain ⟨x1, e1⟩ := DenL.n1 hd; subst e1; rfl) | (obtain ⟨x1, x2, e1⟩ := DenL.n2 hd; subst e1; rfl) | (obtain ⟨x1, x2, x3, e1⟩ := DenL.n3 hd; subst e1; rfl) | (obtain ⟨x1, x2, x3, x4, e1⟩ := DenL.n4 hd; subst e1; rfl) | (obtain ⟨x1, x2, x3, x4, x5, e1⟩ := DenL.n5 hd; subst e1; rfl)))
local macro_rules | `(tactic| wtm_at "q_if") => `(tactic| ((with_reducible refine' Ex.ite ?t ?a ?b); (case t => wtm_at "q_ev"); first
  | ((case a => (wtm_at "q_no")); (case' b => (wtm_at "q_ib")))
  | ((case b => (wtm_at "q_no")); (case' a => (wtm_at "q_ib")))
  | ((case' a => (wtm_at "q_ib")); (case' b => (wtm_at "q_ib")))))
local macro_rules | `(tactic| wtm_at "q_st") => `(tactic| first
  | ((with_reducible refine' Ex.ret ?e ?k); (case e => wtm_at "q_ev"))
  | ((with_reducible refine' Ex.assign ?e ?x ?h); (case x => wtm_at "q_vat"); (case e => wtm_at "q_ev"))
  | ((with_reducible refine' Ex.aug ?x ?v ?e ?h); (case x => wtm_at "q_vat"); (case v => exact rfl); (case e => wtm_at "q_ev"))
  | wtm_at "q_if"
  | ((with_reducible refine' Ex.nil ?_); show Ex _ _ _ _ _ _ _)
  | with_reducible refine' Ex.cont ?_
  | with_reducible refine' Ex.nil ?_)
local macro_rules | `(tactic| wtm_at "q_sts") => `(tactic| repeat' ((with_reducible show Ex _ _ _ _ _ _ _); wtm_at "q_st"))
section
-- T1
theorem deref_flat {w : World} {H : Hp} {st a : Addr} {t k : Int} (ha : H a = some (cellO t k)) (h0 : ¬ t = 0) (h1 : ¬ t = 1) : SpP w 60 229 [.ref st, .ref a] H (.ref a) := by
  refine Sp.fn (fi := F229) [Str.ofString "self", Str.ofString "cell"] [Str.ofString "tag", Str.ofString "found"] (fun P => rfl) (fun P => rfl) F229.good rfl rfl ?hb rfl (by decide) ?_
  case hb => wtm_at "q_bind"
  with_unfolding_all show Ex _ _ _ (_ :: _) _ (_ :: _) _
  refine Ex.whileT (σ := Unit) (fun _ N' H' => N' = [.ref st, .ref a, .unb, .unb] ∧ H' = H) (fun _ => 0) (fun _ _ => False) () ⟨rfl, rfl⟩ ?_ (fun _ _ h => h.elim)
  rintro c N' H' ⟨rfl, rfl⟩
  wtm_at "q_sts"
  all_goals exact ⟨rfl, rfl⟩
theorem deref_ref {w : World} {H : Hp} {st sx hp sk tr bk bx tx an fn nn : Addr} (B : Base H st sx hp sk tr bk bx tx an fn nn) {a d1 d2 : Addr} {k q : Int} {hs : List SV} (hhp : H hp = some (.lst hs))
  (ha : H a = some (cellO 0 k)) (k0 : 0 ≤ k) (k1 : k < 1000000) (hx : hs[k.toNat]? = some (.ref d1)) (hd1 : H d1 = some (cellO 0 q)) (q0 : 0 ≤ q) (q1 : q < 1000000) (hy : hs[q.toNat]? = some (.ref d2)) (hd2 : H d2 = some (cellO 0 q)) : SpP w 60 229 [.ref st, .ref a] H (.ref (if q = k then a else d1)) := by
  refine Sp.fn (fi := F229) [Str.ofString "self", Str.ofString "cell"] [Str.ofString "tag", Str.ofString "found"] (fun P => rfl) (fun P => rfl) F229.good rfl rfl ?hb rfl (by decide) ?_
  case hb => wtm_at "q_bind"
  with_unfolding_all show Ex _ _ _ (_ :: _) _ (_ :: _) _
  refine Ex.whileT (σ := Bool) (fun c N' H' => H' = H ∧ (c = false → ¬ q = k) ∧ ∃ u v, N' = [.ref st, .ref (if c then a else d1), u, v]) (fun c => if c then 1 else 0) (fun _ _ => False) true ⟨rfl, (fun e => by cases e), _, _, rfl⟩ ?_ (fun _ _ h => h.elim)
  rintro c N' H' ⟨rfl, hc, u, v, rfl⟩
  cases c with
  | true =>
    simp only [if_true]
    wtm_at "q_sts"
    all_goals first
      | (rw [if_pos (by omega)]; exact ⟨rfl, rfl⟩)
      | exact ⟨false, by decide, rfl, (fun _ => by omega), _, _, rfl⟩
  | false =>
    simp only [Bool.false_eq_true, if_false]
    wtm_at "q_sts"
    all_goals (rw [if_neg (hc rfl)]; exact ⟨rfl, rfl⟩)
theorem rank_is {w : World} {H : Hp} {a : Addr} {t k : Int} (ha : H a = some (cellO t k)) : SpP w 70 424 [.ref a] H (.int (rankZ t)) := by
  refine Sp.fn (fi := F424) [Str.ofString "cell"] [Str.ofString "tag"] (fun P => rfl) (fun P => rfl) F424.good rfl rfl ?hb rfl (by decide) ?_
  case hb => wtm_at "q_bind"
  with_unfolding_all show Ex _ _ _ (_ :: _) _ (_ :: _) _
  wtm_at "q_sts"
  all_goals (refine ⟨?_, rfl⟩; unfold rankZ; congr 1; repeat' split)
  all_goals omega
theorem order_int {w : World} {H : Hp} {x y : Int} : SpP w 70 431 [.int x, .int y] H (.int (cmpZ x y)) := by
  refine Sp.fn (fi := F431) [Str.ofString "left", Str.ofString "right"] [] (fun P => rfl) (fun P => rfl) F431.good rfl rfl ?hb rfl (by decide) ?_
  case hb => wtm_at "q_bind"
  with_unfolding_all show Ex _ _ _ (_ :: _) _ (_ :: _) _
  wtm_at "q_sts"
  all_goals (refine ⟨?_, rfl⟩; unfold cmpZ; congr 1; repeat' split)
  all_goals omega
theorem order_str {w : World} {H : Hp} {x y : Str} : SpP w 70 431 [.str x, .str y] H (.int (cmpZS x y)) := by
  refine Sp.fn (fi := F431) [Str.ofString "left", Str.ofString "right"] [] (fun P => rfl) (fun P => rfl) F431.good rfl rfl ?hb rfl (by decide) ?_
  case hb => wtm_at "q_bind"
  with_unfolding_all show Ex _ _ _ (_ :: _) _ (_ :: _) _
  wtm_at "q_sts"
  all_goals (refine ⟨?_, rfl⟩; unfold cmpZS; congr 1; repeat' split)
  all_goals first | rfl | contradiction
theorem order_ref {w : World} {H : Hp} {a b : Addr} {t k k' : Int} (ha : H a = some (cellO t k)) (hb : H b = some (cellO t k')) (hne : ¬ k = k') : SpP w 70 431 [.ref a, .ref b] H (.int (cmpZ k k')) := by
  refine Sp.fn (fi := F431) [Str.ofString "left", Str.ofString "right"] [] (fun P => rfl) (fun P => rfl) F431.good rfl rfl ?hb rfl (by decide) ?_
  case hb => wtm_at "q_bind"
  with_unfolding_all show Ex _ _ _ (_ :: _) _ (_ :: _) _
  wtm_at "q_sts"
  all_goals (refine ⟨?_, rfl⟩; unfold cmpZ; congr 1; repeat' split)
  all_goals omega
theorem is_compound_is {w : World} {H : Hp} {st a : Addr} {t k : Int} (ha : H a = some (cellO t k)) : SpP w 70 285 [.ref st, .ref a] H (.bool (t == 2 || t == 3)) := by
  refine Sp.fn (fi := F285) [Str.ofString "self", Str.ofString "cell"] [] (fun P => rfl) (fun P => rfl) F285.good rfl rfl ?hb rfl (by decide) ?_
  case hb => wtm_at "q_bind"
  with_unfolding_all show Ex _ _ _ (_ :: _) _ (_ :: _) _
  wtm_at "q_sts"
  all_goals exact ⟨rfl, rfl⟩
theorem functor_str {w : World} {H : Hp} {st sx hp sk tr bk bx tx an fn nn : Addr} (B : Base H st sx hp sk tr bk bx tx an fn nn) {a d1 : Addr} {t k q : Int} {hs : List SV} (hhp : H hp = some (.lst hs)) (ha : H a = some (cellO 2 k)) (k0 : 0 ≤ k) (k1 : k < 1000000) (hx : hs[k.toNat]? = some (.ref d1)) (hd1 : H d1 = some (cellO t q)) : SpP w 70 292 [.ref st, .ref a] H (.int q) := by
  refine Sp.fn (fi := F292) [Str.ofString "self", Str.ofString "cell"] [Str.ofString "tag"] (fun P => rfl) (fun P => rfl) F292.good rfl rfl ?hb rfl (by decide) ?_
  case hb => wtm_at "q_bind"
  with_unfolding_all show Ex _ _ _ (_ :: _) _ (_ :: _) _
  wtm_at "q_sts"
  all_goals exact ⟨rfl, rfl⟩
theorem functor_lis {w : World} {H : Hp} {st a : Addr} {k : Int} (ha : H a = some (cellO 3 k)) : SpP w 70 292 [.ref st, .ref a] H (.int 0) := by
  refine Sp.fn (fi := F292) [Str.ofString "self", Str.ofString "cell"] [Str.ofString "tag"] (fun P => rfl) (fun P => rfl) F292.good rfl rfl ?hb rfl (by decide) ?_
  case hb => wtm_at "q_bind"
  with_unfolding_all show Ex _ _ _ (_ :: _) _ (_ :: _) _
  wtm_at "q_sts"
  all_goals exact ⟨rfl, rfl⟩
theorem arity_is {w : World} {H : Hp} {st sx hp sk tr bk bx tx an fn nn : Addr} (B : Base H st sx hp sk tr bk bx tx an fn nn) {fs : List SV} (hfn : H fn = some (.lst fs)) {q : Int} {e : Addr} {a0 n : Int} (q0 : 0 ≤ q) (q1 : q < 1000000) (hq : fs[q.toNat]? = some (.ref e)) (he : H e = some (cellO a0 n)) : SpP w 75 123 [.ref bk, .int q] H (.int n) := by
  refine Sp.fn (fi := F123) [Str.ofString "self", Str.ofString "functor"] [] (fun P => rfl) (fun P => rfl) F123.good rfl rfl ?hb rfl (by decide) ?_
  case hb => wtm_at "q_bind"
  with_unfolding_all show Ex _ _ _ (_ :: _) _ (_ :: _) _
  wtm_at "q_sts"
  all_goals exact ⟨rfl, rfl⟩
theorem text_is {w : World} {H : Hp} {st sx hp sk tr bk bx tx an fn nn : Addr} (B : Base H st sx hp sk tr bk bx tx an fn nn) {ts : List SV} (htx : H tx = some (.lst ts)) {q : Int} {x : Str} (q0 : 0 ≤ q) (q1 : q < 1000000) (hq : ts[q.toNat]? = some (.str x)) : SpP w 75 95 [.ref bk, .int q] H (.str x) := by
  refine Sp.fn (fi := F95) [Str.ofString "self", Str.ofString "number"] [] (fun P => rfl) (fun P => rfl) F95.good rfl rfl ?hb rfl (by decide) ?_
  case hb => wtm_at "q_bind"
  with_unfolding_all show Ex _ _ _ (_ :: _) _ (_ :: _) _
  wtm_at "q_sts"
  all_goals exact ⟨rfl, rfl⟩
theorem base_is {w : World} {H : Hp} {st a : Addr} {t k : Int} (ha : H a = some (cellO t k)) : SpP w 70 306 [.ref st, .ref a] H (.int (if t = 3 then k else k + 1)) := by
  refine Sp.fn (fi := F306) [Str.ofString "self", Str.ofString "cell"] [] (fun P => rfl) (fun P => rfl) F306.good rfl rfl ?hb rfl (by decide) ?_
  case hb => wtm_at "q_bind"
  with_unfolding_all show Ex _ _ _ (_ :: _) _ (_ :: _) _
  wtm_at "q_sts"
  all_goals first
    | exact ⟨by rw [if_pos (by omega)], rfl⟩
    | exact ⟨by rw [if_neg (by omega)], rfl⟩
local macro_rules | `(tactic| wtm_at "q_sp") => `(tactic| first | with_reducible assumption | exact arity_is (by assumption) (by assumption) (by wtm_at "q_num") (by wtm_at "q_num") (by wtm_at "q_get") (by assumption))
theorem width_str {w : World} {H : Hp} {st sx hp sk tr bk bx tx an fn nn : Addr} (B : Base H st sx hp sk tr bk bx tx an fn nn) {a d1 : Addr} {t k : Int} {hs : List SV} (hhp : H hp = some (.lst hs)) (ha : H a = some (cellO 2 k)) (k0 : 0 ≤ k) (k1 : k < 1000000) (hx : hs[k.toNat]? = some (.ref d1)) {fs : List SV} (hfn : H fn = some (.lst fs)) {q : Int} {e : Addr} {a0 n : Int} (q0 : 0 ≤ q) (q1 : q < 1000000) (hq : fs[q.toNat]? = some (.ref e)) (he : H e = some (cellO a0 n))  (hd1 : H d1 = some (cellO t q)) : SpP w 70 299 [.ref st, .ref a] H (.int n) := by
  refine Sp.fn (fi := F299) [Str.ofString "self", Str.ofString "cell"] [Str.ofString "tag"] (fun P => rfl) (fun P => rfl) F299.good rfl rfl ?hb rfl (by decide) ?_
  case hb => wtm_at "q_bind"
  with_unfolding_all show Ex _ _ _ (_ :: _) _ (_ :: _) _
  wtm_at "q_sts"
  all_goals exact ⟨rfl, rfl⟩
theorem width_lis {w : World} {H : Hp} {st a : Addr} {k : Int} (ha : H a = some (cellO 3 k)) : SpP w 70 299 [.ref st, .ref a] H (.int 2) := by
  refine Sp.fn (fi := F299) [Str.ofString "self", Str.ofString "cell"] [Str.ofString "tag"] (fun P => rfl) (fun P => rfl) F299.good rfl rfl ?hb rfl (by decide) ?_
  case hb => wtm_at "q_bind"
  with_unfolding_all show Ex _ _ _ (_ :: _) _ (_ :: _) _
  wtm_at "q_sts"
  all_goals exact ⟨rfl, rfl⟩
end
local macro_rules | `(tactic| wtm_at "q_sp") => `(tactic| first
  | with_reducible assumption
  | ((with_reducible refine' rank_is ?h); (case h => wtm_at "q_hp"))
  | with_reducible exact order_int
  | with_reducible exact order_str
  | ((with_reducible refine' order_ref ?h ?i ?j); (case h => wtm_at "q_hp"); (case i => wtm_at "q_hp"); (case j => assumption))
  | ((with_reducible refine' is_compound_is ?h); (case h => wtm_at "q_hp"))
  | ((with_reducible refine' text_is ?b ?h ?i ?j ?k); (case b => assumption); (case h => wtm_at "q_hp"); (case i => wtm_at "q_num"); (case j => wtm_at "q_num"); (case k => wtm_at "q_get"))
  | ((with_reducible refine' arity_is ?b ?h ?i ?j ?k ?l); (case b => assumption); (case h => wtm_at "q_hp"); (case i => wtm_at "q_num"); (case j => wtm_at "q_num"); (case k => wtm_at "q_get"); (case l => wtm_at "q_hp"))
  | ((with_reducible refine' name_is ?b ?h ?i ?j ?k ?l); (case b => assumption); (case h => wtm_at "q_hp"); (case i => wtm_at "q_num"); (case j => wtm_at "q_num"); (case k => wtm_at "q_get"); (case l => wtm_at "q_hp")))
section
-- T2
theorem shapes_eq {w : World} {H : Hp} {st sx hp sk tr bk bx tx an fn nn : Addr} (B : Base H st sx hp sk tr bk bx tx an fn nn) {l r : Addr} {f0 : Int} (h1 : SpP w 70 292 [.ref st, .ref l] H (.int f0)) (h2 : SpP w 70 292 [.ref st, .ref r] H (.int f0)) : SpP w 60 438 [.ref st, .ref l, .ref r] H (.int 0) := by
  refine Sp.fn (fi := F438) [Str.ofString "store", Str.ofString "left", Str.ofString "right"] [Str.ofString "symbols", Str.ofString "f", Str.ofString "g", Str.ofString "result"] (fun P => rfl) (fun P => rfl) F438.good rfl rfl ?hb rfl (by decide) ?_
  case hb => wtm_at "q_bind"
  with_unfolding_all show Ex _ _ _ (_ :: _) _ (_ :: _) _
  wtm_at "q_sts"
  all_goals exact ⟨rfl, rfl⟩
theorem shapes_ne {w : World} {H : Hp} {st sx hp sk tr bk bx tx an fn nn : Addr} (B : Base H st sx hp sk tr bk bx tx an fn nn) {l r : Addr} {f0 g0 n m : Int} (h1 : SpP w 70 292 [.ref st, .ref l] H (.int f0)) (h2 : SpP w 70 292 [.ref st, .ref r] H (.int g0)) (hne : ¬ f0 = g0) (h3 : SpP w 75 123 [.ref bk, .int f0] H (.int n)) (h4 : SpP w 75 123 [.ref bk, .int g0] H (.int m)) (hz : ¬ cmpZ n m = 0) : SpP w 60 438 [.ref st, .ref l, .ref r] H (.int (cmpZ n m)) := by
  refine Sp.fn (fi := F438) [Str.ofString "store", Str.ofString "left", Str.ofString "right"] [Str.ofString "symbols", Str.ofString "f", Str.ofString "g", Str.ofString "result"] (fun P => rfl) (fun P => rfl) F438.good rfl rfl ?hb rfl (by decide) ?_
  case hb => wtm_at "q_bind"
  with_unfolding_all show Ex _ _ _ (_ :: _) _ (_ :: _) _
  wtm_at "q_sts"
  all_goals exact ⟨rfl, rfl⟩
theorem tops_rank {w : World} {H : Hp} {st : Addr} {a b : Addr} {t k t' k' : Int} (ha : H a = some (cellO t k)) (hb : H b = some (cellO t' k')) (hz : ¬ cmpZ (rankZ t) (rankZ t') = 0) : SpP w 50 445 [.ref st, .ref a, .ref b] H (.int (cmpZ (rankZ t) (rankZ t'))) := by
  refine Sp.fn (fi := F445) [Str.ofString "store", Str.ofString "left", Str.ofString "right"] [Str.ofString "kind", Str.ofString "result"] (fun P => rfl) (fun P => rfl) F445.good rfl rfl ?hb rfl (by decide) ?_
  case hb => wtm_at "q_bind"
  with_unfolding_all show Ex _ _ _ (_ :: _) _ (_ :: _) _
  wtm_at "q_sts"
  all_goals exact ⟨rfl, rfl⟩
theorem tops_ref {w : World} {H : Hp} {st : Addr} {a b : Addr} {k k' : Int} (ha : H a = some (cellO 0 k)) (hb : H b = some (cellO 0 k')) (hne : ¬ k = k') : SpP w 50 445 [.ref st, .ref a, .ref b] H (.int (cmpZ k k')) := by
  refine Sp.fn (fi := F445) [Str.ofString "store", Str.ofString "left", Str.ofString "right"] [Str.ofString "kind", Str.ofString "result"] (fun P => rfl) (fun P => rfl) F445.good rfl rfl ?hb rfl (by decide) ?_
  case hb => wtm_at "q_bind"
  with_unfolding_all show Ex _ _ _ (_ :: _) _ (_ :: _) _
  have e0 : rankZ 0 = 0 := by decide
  have e1 : cmpZ (rankZ 0) (rankZ 0) = 0 := by decide
  wtm_at "q_sts"
  all_goals exact ⟨rfl, rfl⟩
theorem tops_int {w : World} {H : Hp} {st : Addr} {a b : Addr} {k k' : Int} (ha : H a = some (cellO 5 k)) (hb : H b = some (cellO 5 k')) : SpP w 50 445 [.ref st, .ref a, .ref b] H (.int (cmpZ k k')) := by
  refine Sp.fn (fi := F445) [Str.ofString "store", Str.ofString "left", Str.ofString "right"] [Str.ofString "kind", Str.ofString "result"] (fun P => rfl) (fun P => rfl) F445.good rfl rfl ?hb rfl (by decide) ?_
  case hb => wtm_at "q_bind"
  with_unfolding_all show Ex _ _ _ (_ :: _) _ (_ :: _) _
  have e0 : rankZ 5 = 1 := by decide
  have e1 : cmpZ (rankZ 5) (rankZ 5) = 0 := by decide
  wtm_at "q_sts"
  all_goals exact ⟨rfl, rfl⟩
theorem tops_con {w : World} {H : Hp} {st sx hp sk tr bk bx tx an fn nn : Addr} (B : Base H st sx hp sk tr bk bx tx an fn nn) {a b : Addr} {k k' : Int} (ha : H a = some (cellO 4 k)) (hb : H b = some (cellO 4 k')) {ts : List SV} (htx : H tx = some (.lst ts)) {x y : Str} (k0 : 0 ≤ k) (k1 : k < 1000000) (hk : ts[k.toNat]? = some (.str x)) (k0' : 0 ≤ k') (k1' : k' < 1000000) (hk' : ts[k'.toNat]? = some (.str y)) : SpP w 50 445 [.ref st, .ref a, .ref b] H (.int (cmpZS x y)) := by
  refine Sp.fn (fi := F445) [Str.ofString "store", Str.ofString "left", Str.ofString "right"] [Str.ofString "kind", Str.ofString "result"] (fun P => rfl) (fun P => rfl) F445.good rfl rfl ?hb rfl (by decide) ?_
  case hb => wtm_at "q_bind"
  with_unfolding_all show Ex _ _ _ (_ :: _) _ (_ :: _) _
  have e0 : rankZ 4 = 2 := by decide
  have e1 : cmpZ (rankZ 4) (rankZ 4) = 0 := by decide
  wtm_at "q_sts"
  all_goals exact ⟨rfl, rfl⟩
theorem tops_cmp {w : World} {H : Hp} {st : Addr} {a b : Addr} {t k t' k' : Int} (ha : H a = some (cellO t k)) (hb : H b = some (cellO t' k')) (e0 : rankZ t = 3) (e0' : rankZ t' = 3) {z : Int} (hs : SpP w 60 438 [.ref st, .ref a, .ref b] H (.int z)) : SpP w 50 445 [.ref st, .ref a, .ref b] H (.int z) := by
  refine Sp.fn (fi := F445) [Str.ofString "store", Str.ofString "left", Str.ofString "right"] [Str.ofString "kind", Str.ofString "result"] (fun P => rfl) (fun P => rfl) F445.good rfl rfl ?hb rfl (by decide) ?_
  case hb => wtm_at "q_bind"
  with_unfolding_all show Ex _ _ _ (_ :: _) _ (_ :: _) _
  have e1 : cmpZ (rankZ t) (rankZ t') = 0 := by rw [e0, e0']; decide
  wtm_at "q_sts"
  all_goals exact ⟨rfl, rfl⟩
end
section
-- T3
theorem psinit {w : World} {H0 H : Hp} {st sx hp sk tr bk bx tx an fn nn : Addr} (hle : Hle H0 H) (B0 : Base H0 st sx hp sk tr bk bx tx an fn nn) {hs : List SV} (hhp0 : H0 hp = some (.lst hs)) (hz : hs.length ≤ 100000) {x dx : Addr} (hx : H x = some (.inst 406 dx)) (hdx : H dx = some (.attrs [])) (hn : H0 dx = none) :
  Sp w 60 396 [.ref x, .ref st] H (fun v H' => v = .none ∧ ∃ m, Hle H0 H' ∧ H' x = some (.inst 406 dx) ∧ H' dx = some (.attrs [(Str.ofString "span", .int ((hs.length : Int) + 1)), (Str.ofString "met", .ref m)]) ∧ H' m = some (.iset (fun _ => false) 0) ∧ H0 m = none) := by
  refine Sp.fn (fi := F396) [Str.ofString "self", Str.ofString "store"] [] (fun P => rfl) (fun P => rfl) F396.good rfl rfl ?hb rfl (by decide) ?_
  case hb => wtm_at "q_bind"
  with_unfolding_all show Ex _ _ _ (_ :: _) _ (_ :: _) _
  have B := B0.le hle
  have hhp := hle _ _ hhp0
  refine Ex.setattr (a := x) (dx := dx) (K1 := fun v H' => v = .int ((hs.length : Int) + 1) ∧ H' = H) cs_406_span ?he ?_
  case he => wtm_at "q_ev"
  rintro v H1 ⟨rfl, rfl⟩
  refine ⟨[], by wtm_at "q_ev", hx, hdx, rfl, by simp, ?_⟩
  have hle2 := hle.upd (o := .attrs ([] ++ [(Str.ofString "span", .int ((hs.length : Int) + 1))])) hn
  have hx2 := Hp.set_ne (o := .attrs ([] ++ [(Str.ofString "span", .int ((hs.length : Int) + 1))])) (Hp.ne_of hx hdx (fun q => by cases q)) hx
  refine Ex.setattr (a := x) (dx := dx) cs_406_met (Ev.newset rfl) ?_
  rintro v H2 ⟨m, rfl, hm, rfl⟩
  have hdx2 := Hp.set_new (o := .iset (fun _ => false) 0) hm (Hp.set_eq (H := H1) (a := dx) (o := .attrs ([] ++ [(Str.ofString "span", .int ((hs.length : Int) + 1))])))
  have hx3 := Hp.set_new (o := .iset (fun _ => false) 0) hm hx2
  refine ⟨_, by wtm_at "q_ev", hx3, hdx2, by rfl, by simp, ?_⟩
  refine Ex.nil ⟨rfl, m, (hle2.new hm).upd hn, Hp.set_ne (Hp.ne_of hx3 hdx2 (fun q => by cases q)) hx3, Hp.set_eq, Hp.set_ne (Hp.ne_none hm Hp.set_eq) Hp.set_eq, hle2.none hm⟩
theorem add_new {w : World} {H : Hp} {x dx m : Addr} {sp : Int} (hx : H x = some (.inst 406 dx)) (hdx : H dx = some (.attrs [(Str.ofString "span", .int sp), (Str.ofString "met", .ref m)])) (hm : H m = some (.iset (fun _ => false) 0)) {l r : Addr} {t k t' k' : Int} (hl : H l = some (cellO t k)) (hr : H r = some (cellO t' k')) (s0 : 0 ≤ sp) (s1 : sp ≤ 1000000) :
  Sp w 60 403 [.ref x, .ref l, .ref r] H (fun v H' => v = .bool true ∧ ∃ S n, H' = H.set m (.iset S n)) := by
  refine Sp.fn (fi := F403) [Str.ofString "self", Str.ofString "left", Str.ofString "right"] [Str.ofString "number"] (fun P => rfl) (fun P => rfl) F403.good rfl rfl ?hb rfl (by decide) ?_
  case hb => wtm_at "q_bind"
  with_unfolding_all show Ex _ _ _ (_ :: _) _ (_ :: _) _
  refine' Ex.assign (Ev.add (Ev.mul ?e1 ?e2 ?em) ?e3) ?x ?_
  case e1 => wtm_at "q_ev"
  case e2 => wtm_at "q_ev"
  case em => exact PySem.IntMulOk.of_right (PySem.intBits_le_64 (by omega) (by omega))
  case e3 => wtm_at "q_ev"
  case x => wtm_at "q_vat"
  refine' Ex.iteF (EvB.cmp ?l ?r (CmpR.inS hm (by decide))) rfl ?_
  case l => wtm_at "q_ev"
  case r => wtm_at "q_ev"
  refine Ex.nil ?_
  show Ex _ _ _ _ _ _ _
  refine' Ex.expr (Ev.setadd ?o hm (by decide) ?e) ?_
  case o => wtm_at "q_ev"
  case e => wtm_at "q_ev"
  rintro v H1 ⟨rfl, S, n, rfl⟩
  refine Ex.ret Ev.bool ⟨rfl, S, n, rfl⟩
/-- pairs of cells, as they lie on the stack of work -/
inductive PairsAt (H : Hp) : List SV → List (Addr × Addr) → Prop
  | nil : PairsAt H [] []
  | snoc {vs : List SV} {ps : List (Addr × Addr)} {t a b : Addr} : PairsAt H vs ps → H t = some (.tup [.ref a, .ref b]) → PairsAt H (vs ++ [.ref t]) (ps ++ [(a, b)])
theorem PairsAt.le {H H' : Hp} {vs : List SV} {ps : List (Addr × Addr)} (h : PairsAt H vs ps) (hl : ∀ t a b, H t = some (.tup [.ref a, .ref b]) → H' t = some (.tup [.ref a, .ref b])) : PairsAt H' vs ps := by
  induction h with
  | nil => exact .nil
  | snoc _ e ih => exact .snoc ih (hl _ _ _ e)
theorem PairsAt.length {H : Hp} {vs : List SV} {ps : List (Addr × Addr)} (h : PairsAt H vs ps) : vs.length = ps.length := by
  induction h with
  | nil => rfl
  | snoc _ e ih => simp only [List.length_append, ih]; rfl
theorem PairsAt.last {H : Hp} {vs : List SV} {ps : List (Addr × Addr)} {a b : Addr} (h : PairsAt H vs (ps ++ [(a, b)])) : ∃ us t, vs = us ++ [.ref t] ∧ H t = some (.tup [.ref a, .ref b]) ∧ PairsAt H us ps := by
  generalize hq : ps ++ [(a, b)] = qs at h
  cases h with
  | nil => simp at hq
  | snoc h e =>
    obtain ⟨rfl, e2⟩ := List.append_inj' hq rfl
    cases e2
    exact ⟨_, _, rfl, e, h⟩
noncomputable def revPairs (ga gb : Nat → Addr) (n : Nat) : Nat → List (Addr × Addr)
  | 0 => []
  | i + 1 => revPairs ga gb n i ++ [(ga (n - 1 - i), gb (n - 1 - i))]
theorem push_pairs_is {w : World} {H0 H : Hp} {st sx hp sk tr bk bx tx an fn nn : Addr} (hle : Hle H0 H) (B0 : Base H0 st sx hp sk tr bk bx tx an fn nn) {hs : List SV} (hhp0 : H0 hp = some (.lst hs)) {l r wk : Addr} {tl kl tr' kr : Int} (hl0 : H0 l = some (cellO tl kl)) (hr0 : H0 r = some (cellO tr' kr)) (hwk : H wk = some (.lst [])) (hn : H0 wk = none)
  {n : Nat} (hw : ∀ H', Hle H0 H' → SpP w 70 299 [.ref st, .ref l] H' (.int n)) (hn2 : n ≤ 2) {pl pr : Int} (el : (if tl = 3 then kl else kl + 1) = pl) (er : (if tr' = 3 then kr else kr + 1) = pr) (pl0 : 0 ≤ pl) (pl1 : pl < 900000) (pr0 : 0 ≤ pr) (pr1 : pr < 900000)
  {ga gb : Nat → Addr} (hga : ∀ j, j < n → hs[(pl + (j : Int)).toNat]? = some (.ref (ga j))) (hgb : ∀ j, j < n → hs[(pr + (j : Int)).toNat]? = some (.ref (gb j))) :
  Sp w 60 417 [.ref st, .ref l, .ref r, .ref wk] H (fun v H' => v = .none ∧ Hle H0 H' ∧ ∃ vs, H' wk = some (.lst vs) ∧ PairsAt H' vs (revPairs ga gb n n)) := by
  refine Sp.fn (fi := F417) [Str.ofString "store", Str.ofString "left", Str.ofString "right", Str.ofString "work"] [Str.ofString "left_place", Str.ofString "right_place", Str.ofString "step"] (fun P => rfl) (fun P => rfl) F417.good rfl rfl ?hb rfl (by decide) ?_
  case hb => wtm_at "q_bind"
  with_unfolding_all show Ex _ _ _ (_ :: _) _ (_ :: _) _
  have B := B0.le hle
  have hhp := hle _ _ hhp0
  have hl := hle _ _ hl0
  have hr := hle _ _ hr0
  have hb1 : SpP w 70 306 [.ref st, .ref l] H (.int pl) := el ▸ base_is hl
  have hb2 : SpP w 70 306 [.ref st, .ref r] H (.int pr) := er ▸ base_is hr
  have hw1 := hw H hle
  wtm_at "q_st"
  wtm_at "q_st"
  have hsz : Builtin.Range.rangeSize ((n : Int) - 1) (-1) (-1) = (n : Int) := by rcases (show n = 0 ∨ n = 1 ∨ n = 2 by omega) with h | h | h <;> subst h <;> rfl
  have hsm : Builtin.Range.small ((n : Int) - 1) (-1) (-1) = true := by rcases (show n = 0 ∨ n = 1 ∨ n = 2 by omega) with h | h | h <;> subst h <;> rfl
  refine' Ex.forRange (K := kret _) (fun i N' H' => ∃ u, N' = [.ref st, .ref l, .ref r, .ref wk, .int pl, .int pr, u] ∧ Hle H0 H' ∧ ∃ vs, H' wk = some (.lst vs) ∧ PairsAt H' vs (revPairs ga gb n i) ∧ vs.length = i) (RangeE.three rfl ?e1 ?e2 ?e3 (by decide) (PyProof.noPylong_small (by decide))) hsm hsz ?hx ⟨_, rfl, hle, [], hwk, .nil, rfl⟩ ?turn ?exit
  case e1 => wtm_at "q_ev"
  case e2 => wtm_at "q_ev"
  case e3 => wtm_at "q_ev"
  case hx => wtm_at "q_vat"
  case exit =>
    rintro N' H' ⟨u, rfl, hle', vs, h1, h2, _⟩
    exact Ex.nil ⟨rfl, hle', vs, h1, h2⟩
  case turn =>
    rintro i N' H' hi ⟨u, rfl, hle', vs, h1, h2, hlen⟩
    have B' := B0.le hle'
    have hhp' := hle' _ _ hhp0
    have ei : (n : Int) - 1 + (i : Int) * (-1) = ((n - 1 - i : Nat) : Int) := by omega
    rw [ei]
    have ga' := hga (n - 1 - i) (by omega)
    have gb' := hgb (n - 1 - i) (by omega)
    refine Ex.expr (Ev.append (K := fun v H3 => ∃ t, v = .none ∧ H' t = none ∧ H3 = (H'.set t (.tup [.ref (ga (n - 1 - i)), .ref (gb (n - 1 - i))])).set wk (.lst (vs ++ [.ref t]))) ?o h1 (Ev.tup (vs := [.ref (ga (n - 1 - i)), .ref (gb (n - 1 - i))]) ?t (by simp)) ?k) ?_
    case o => wtm_at "q_ev"
    case t => wtm_at "q_ev"
    case k =>
      rintro v H1 ⟨t, rfl, ht, rfl⟩
      exact ⟨vs, Hp.set_new ht h1, by omega, t, rfl, ht, rfl⟩
    rintro v H3 ⟨t, rfl, ht, rfl⟩
    have hne : t ≠ wk := Hp.ne_none ht h1
    refine Ex.nil ⟨_, rfl, (hle'.new ht).upd hn, _, Hp.set_eq, .snoc (h2.le fun t' a b e => ?_) (Hp.set_ne hne Hp.set_eq), by simp [hlen]⟩
    exact Hp.set_ne (Hp.ne_of e h1 (fun q => by cases q)) (Hp.set_new ht e)
end
section
-- T4
/-- what comparing two flat cells comes to -/
noncomputable def Flat2 (w : World) (H0 : Hp) (st a b : Addr) (z : Int) : Prop :=
  ∃ d1 d2 t k t' k', (∀ H', Hle H0 H' → SpP w 60 229 [.ref st, .ref a] H' (.ref d1)) ∧ (∀ H', Hle H0 H' → SpP w 60 229 [.ref st, .ref b] H' (.ref d2)) ∧ H0 d1 = some (cellO t k) ∧ H0 d2 = some (cellO t' k') ∧
    (((t = t' ∧ k = k') ∧ z = 0) ∨ (¬ (t = t' ∧ k = k') ∧ ¬ z = 0 ∧ ∀ H', Hle H0 H' → SpP w 50 445 [.ref st, .ref d1, .ref d2] H' (.int z)))
/-- what a stack of flat pairs comes to, the top one first -/
inductive Res (w : World) (H0 : Hp) (st : Addr) (z : Int) : List (Addr × Addr) → Prop
  | nil : z = 0 → Res w H0 st z []
  | same {ps : List (Addr × Addr)} {a b : Addr} : Flat2 w H0 st a b 0 → Res w H0 st z ps → Res w H0 st z (ps ++ [(a, b)])
  | diff {ps : List (Addr × Addr)} {a b : Addr} : Flat2 w H0 st a b z → ¬ z = 0 → Res w H0 st z (ps ++ [(a, b)])
/-- two compounds with one functor -/
noncomputable def Deep2 (w : World) (H0 : Hp) (st hp a b : Addr) (z : Int) : Prop :=
  ∃ d1 d2 t k t' k' n pl pr ga gb hs, (∀ H', Hle H0 H' → SpP w 60 229 [.ref st, .ref a] H' (.ref d1)) ∧ (∀ H', Hle H0 H' → SpP w 60 229 [.ref st, .ref b] H' (.ref d2)) ∧ H0 d1 = some (cellO t k) ∧ H0 d2 = some (cellO t' k') ∧
    ¬ (t = t' ∧ k = k') ∧ (∀ H', Hle H0 H' → SpP w 50 445 [.ref st, .ref d1, .ref d2] H' (.int 0)) ∧ (t = 2 ∨ t = 3) ∧ H0 hp = some (.lst hs) ∧ hs.length ≤ 100000 ∧ (∀ H', Hle H0 H' → SpP w 70 299 [.ref st, .ref d1] H' (.int (n : Nat))) ∧ n ≤ 2 ∧
    (if t = 3 then k else k + 1) = pl ∧ (if t' = 3 then k' else k' + 1) = pr ∧ 0 ≤ pl ∧ pl < 900000 ∧ 0 ≤ pr ∧ pr < 900000 ∧ (∀ j, j < n → hs[(pl + (j : Int)).toNat]? = some (.ref (ga j))) ∧ (∀ j, j < n → hs[(pr + (j : Int)).toNat]? = some (.ref (gb j))) ∧ Res w H0 st z (revPairs ga gb n n)
theorem compare_is {w : World} {H0 : Hp} {st sx hp sk tr bk bx tx an fn nn : Addr} (B0 : Base H0 st sx hp sk tr bk bx tx an fn nn) {hs : List SV} (hhp0 : H0 hp = some (.lst hs)) (hz : hs.length ≤ 100000) {c1 c2 : Addr} {z : Int} (hc : Flat2 w H0 st c1 c2 z ∨ Deep2 w H0 st hp c1 c2 z) :
  Sp w 40 452 [.ref st, .ref c1, .ref c2] H0 (fun v H' => v = .int z ∧ Hle H0 H') := by
  refine Sp.fn (fi := F452) [Str.ofString "store", Str.ofString "c1", Str.ofString "c2"] [Str.ofString "met", Str.ofString "work", Str.ofString "left", Str.ofString "right", Str.ofString "result"] (fun P => rfl) (fun P => rfl) F452.good rfl rfl ?hb rfl (by decide) ?_
  case hb => wtm_at "q_bind"
  with_unfolding_all show Ex _ _ _ (_ :: _) _ (_ :: _) _
  refine' Ex.assignK (i := 3) (Ev.makeK (d' := 60) (g_PairSet rfl) fn_406 mk_406 (EvL.cons ?a EvL.nil) (K := fun v H' => ∃ x dx m, v = .ref x ∧ Hle H0 H' ∧ H' x = some (.inst 406 dx) ∧ H' dx = some (.attrs [(Str.ofString "span", .int ((hs.length : Int) + 1)), (Str.ofString "met", .ref m)]) ∧ H' m = some (.iset (fun _ => false) 0) ∧ H0 m = none) ?s (by decide)) (by wtm_at "q_vat") ?_
  case a => wtm_at "q_ev"
  case s =>
    rintro vs H1 ⟨rfl, rfl⟩ x dx n1 n2 hne
    refine (psinit ((Hle.rfl.new n1).new (Hp.set_ne hne.symm n2)) B0 hhp0 hz Hp.set_eq (Hp.set_ne hne Hp.set_eq) n1).mono ?_
    rintro v H' ⟨rfl, m, h1, h2, h3, h4, h5⟩
    exact ⟨rfl, x, dx, m, rfl, h1, h2, h3, h4, h5⟩
  rintro v H1 ⟨x, dx, m, rfl, hle1, hx1, hdx1, hm1, hmn⟩
  refine' Ex.assignK (i := 4) (Ev.listK (KA := fun vs H2 => ∃ t, vs = [.ref t] ∧ H1 t = none ∧ H2 = H1.set t (.tup [.ref c1, .ref c2])) (K := fun v H2 => ∃ wk t, v = .ref wk ∧ H1 wk = none ∧ H1 t = none ∧ t ≠ wk ∧ H2 = (H1.set t (.tup [.ref c1, .ref c2])).set wk (.lst [.ref t])) (EvL.consK (Ev.tup (vs := [.ref c1, .ref c2]) ?t (by simp)) ?tt) ?l) (by wtm_at "q_vat") ?_
  case t => wtm_at "q_ev"
  case tt =>
    rintro v H2 ⟨t, rfl, ht, rfl⟩
    exact EvL.nilK ⟨t, rfl, ht, rfl⟩
  case l =>
    rintro vs H2 ⟨t, rfl, ht, rfl⟩
    refine ⟨by simp, fun a ha => ⟨a, t, rfl, ?_, ht, (Hp.none_ne ha Hp.set_eq), rfl⟩⟩
    cases q : H1 a with
    | none => rfl
    | some o => exact absurd (Hp.set_new ht q) (by rw [ha]; simp)
  rintro v H2 ⟨wk, t, rfl, hw1, ht1, htw, rfl⟩
  have hwn := hle1.none hw1
  refine Ex.while (σ := Bool × Nat) (fun c N' H' => ∃ ps vs S n u1 u2 u3, N' = [.ref st, .ref c1, .ref c2, .ref x, .ref wk, u1, u2, u3] ∧ Hle H0 H' ∧ H' x = some (.inst 406 dx) ∧ H' dx = some (.attrs [(Str.ofString "span", .int ((hs.length : Int) + 1)), (Str.ofString "met", .ref m)]) ∧ H' m = some (.iset S n) ∧
      H' wk = some (.lst vs) ∧ PairsAt H' vs ps ∧ ps.length = c.2 ∧ ps.length ≤ 2 ∧ (if c.1 = true then ps = [(c1, c2)] ∧ H' m = some (.iset (fun _ => false) 0) else Res w H0 st z ps)) (fun c => (if c.1 = true then 10 else 0) + c.2) (fun N' H' => z = 0 ∧ Hle H0 H') (true, 1) ?start ?turn ?exit
  case start =>
    refine ⟨[(c1, c2)], [.ref t], _, _, _, _, _, rfl, (hle1.new ht1).new (Hp.set_ne htw.symm hw1), Hp.set_new (Hp.set_ne htw.symm hw1) (Hp.set_new ht1 hx1), Hp.set_new (Hp.set_ne htw.symm hw1) (Hp.set_new ht1 hdx1), Hp.set_new (Hp.set_ne htw.symm hw1) (Hp.set_new ht1 hm1), Hp.set_eq, ?_, rfl, by simp, ?_⟩
    · exact PairsAt.snoc (vs := []) (ps := []) .nil (Hp.set_ne htw Hp.set_eq)
    · rw [if_pos rfl]
      exact ⟨rfl, Hp.set_new (Hp.set_ne htw.symm hw1) (Hp.set_new ht1 hm1)⟩
  case exit =>
    rintro N' H' ⟨rfl, hle⟩
    exact Ex.ret Ev.int ⟨rfl, hle⟩
  case turn =>
    clear hw1 ht1 htw hle1 hx1 hdx1 hm1
    rintro ⟨stg, cn⟩ N' H' ⟨ps, vs, S, n, u1, u2, u3, rfl, hle, hx, hdx, hm, hwk, hps, hlen, hl2, hst⟩
    dsimp only at hst hlen
    have hvl := hps.length
    refine' EvB.pure (b := decide (0 < (vs.length : Int))) ?test ?go
    case test => wtm_at "q_ev"
    case go =>
      by_cases hv : vs = []
      · subst hv
        rw [if_neg (by simp)]
        have hp0 : ps = [] := List.length_eq_zero_iff.mp hvl.symm
        subst hp0
        cases stg with
        | true => rw [if_pos rfl] at hst; exact absurd hst.1 (by simp)
        | false =>
          rw [if_neg (by simp)] at hst
          generalize hq : ([] : List (Addr × Addr)) = qs at hst
          cases hst with
          | nil e => exact ⟨e, hle⟩
          | same _ _ => simp at hq
          | diff _ _ => simp at hq
      · have hpne : ps ≠ [] := fun q => hv (by rw [q] at hvl; exact List.length_eq_zero_iff.mp hvl)
        obtain ⟨ps', ⟨a, b⟩, rfl⟩ : ∃ ps' p, ps = ps' ++ [p] := ⟨_, _, (List.dropLast_concat_getLast hpne).symm⟩
        obtain ⟨us, tt, rfl, htt, hus⟩ := hps.last
        rw [if_pos (by simp)]
        have hul := hus.length
        refine Ex.unpack2 (i := 5) (j := 6) (Ev.pop (vs := us) (v := .ref tt) (by wtm_at "q_ev") hwk (by simp at hl2; omega)) (by wtm_at "q_vat") (by wtm_at "q_vat") ?_
        rintro v H3 ⟨rfl, rfl⟩
        have hle3 : Hle H0 (H'.set wk (.lst us)) := hle.upd hwn
        have hx3 : (H'.set wk (.lst us)) x = some (.inst 406 dx) := Hp.set_ne (Hp.ne_of hx hwk (fun q => by cases q)) hx
        have hdx3 : (H'.set wk (.lst us)) dx = some (.attrs [(Str.ofString "span", .int ((hs.length : Int) + 1)), (Str.ofString "met", .ref m)]) := Hp.set_ne (Hp.ne_of hdx hwk (fun q => by cases q)) hdx
        have hm3 : (H'.set wk (.lst us)) m = some (.iset S n) := Hp.set_ne (Hp.ne_of hm hwk (fun q => by cases q)) hm
        have hus3 : PairsAt (H'.set wk (.lst us)) us ps' := hus.le fun t' a' b' e => Hp.set_ne (Hp.ne_of e hwk (fun q => by cases q)) e
        refine ⟨tt, .ref a, .ref b, rfl, Hp.set_ne (Hp.ne_of htt hwk (fun q => by cases q)) htt, ?_⟩
        have hwk3 : (H'.set wk (.lst us)) wk = some (.lst us) := Hp.set_eq
        have hmS : stg = true → (H'.set wk (.lst us)) m = some (.iset (fun _ => false) 0) := fun e => by subst e; rw [if_pos rfl] at hst; exact Hp.set_ne (Hp.ne_of hm hwk (fun q => by cases q)) hst.2
        generalize H'.set wk (.lst us) = H4 at hle3 hx3 hdx3 hm3 hus3 hwk3 hmS ⊢
        have B4 := B0.le hle3
        have hcase : (∃ r, Flat2 w H0 st a b r ∧ (r = 0 → Res w H0 st z ps') ∧ (¬ r = 0 → r = z)) ∨ (stg = true ∧ ps' = [] ∧ Deep2 w H0 st hp a b z) := by
          cases stg with
          | false =>
            rw [if_neg (by simp)] at hst
            generalize hq : ps' ++ [(a, b)] = qs at hst
            cases hst with
            | nil e => simp at hq
            | same h1 h2 =>
              obtain ⟨rfl, e2⟩ := List.append_inj' hq rfl
              cases e2
              exact .inl ⟨0, h1, fun _ => h2, fun h => absurd rfl h⟩
            | diff h1 h2 =>
              obtain ⟨rfl, e2⟩ := List.append_inj' hq rfl
              cases e2
              exact .inl ⟨z, h1, fun h => absurd h h2, fun _ => rfl⟩
          | true =>
            rw [if_pos rfl] at hst
            obtain ⟨rfl, e2⟩ := List.append_inj' (hst.1.trans (List.nil_append _).symm) rfl
            cases e2
            rcases hc with hf | hdp
            · by_cases hz0 : z = 0
              · subst hz0
                exact .inl ⟨0, hf, fun _ => .nil rfl, fun h => absurd rfl h⟩
              · exact .inl ⟨z, hf, fun h => absurd h hz0, fun _ => rfl⟩
            · exact .inr ⟨rfl, rfl, hdp⟩
        rcases hcase with ⟨r, ⟨d1, d2, t1, k1, t2, k2, hd1, hd2, e1, e2, hr⟩, hr0, hrn⟩ | ⟨hs1, rfl, d1, d2, t1, k1, t2, k2, n2, pl, pr, ga, gb, hs2, hd1, hd2, e1, e2, hne, htop, ht12, hhs, hhz, hw, hn2, el, er, pl0, pl1, pr0, pr1, hga, hgb, hres⟩
        · have g1 := hd1 H4 hle3
          have g2 := hd2 H4 hle3
          have f1 := hle3 _ _ e1
          have f2 := hle3 _ _ e2
          rcases hr with ⟨⟨rfl, rfl⟩, rfl⟩ | ⟨hne, hrz, htop⟩
          · wtm_at "q_st"
            wtm_at "q_st"
            wtm_at "q_st"
            wtm_at "q_st"
            exact ⟨(false, ps'.length), by simp at hlen; cases stg <;> simp <;> omega, ps', us, S, n, _, _, _, rfl, hle3, hx3, hdx3, hm3, hwk3, hus3, rfl, by simp at hl2; omega, by rw [if_neg (by simp)]; exact hr0 rfl⟩
          · have g3 := htop H4 hle3
            wtm_at "q_st"
            wtm_at "q_st"
            wtm_at "q_st"
            wtm_at "q_st"
            wtm_at "q_st"
            wtm_at "q_st"
            wtm_at "q_st"
            exact ⟨by rw [hrn hrz], hle3⟩
        · have g1 := hd1 H4 hle3
          have g2 := hd2 H4 hle3
          have f1 := hle3 _ _ e1
          have f2 := hle3 _ _ e2
          have g3 := htop H4 hle3
          have hm4 := hmS hs1
          wtm_at "q_st"
          wtm_at "q_st"
          wtm_at "q_st"
          wtm_at "q_st"
          wtm_at "q_st"
          wtm_at "q_st"
          wtm_at "q_st"
          obtain rfl : us = [] := List.length_eq_zero_iff.mp hul
          obtain rfl : hs = hs2 := by rw [hhp0] at hhs; cases hhs; rfl
          refine' Ex.iteK (K1 := fun b' H5 => b' = true ∧ ∃ S' n', H5 = H4.set m (.iset S' n')) (EvB.andK (EvB.val ?ic) ?icf (fun _ => EvB.valK (Ev.mono (Ev.meth (d' := 60) ?mo hx3 hdx3 rfl cm_406_add ?ma (add_new hx3 hdx3 hm4 f1 f2 (by omega) (by omega)) (by decide)) ?mono))) ?yes ?no
          case ic => wtm_at "q_ev"
          case icf => intro h; exfalso; revert h; rcases ht12 with rfl | rfl <;> decide
          case mo => wtm_at "q_ev"
          case ma => wtm_at "q_ev"
          case mono => rintro v H5 ⟨rfl, S', n', rfl⟩; exact ⟨true, rfl, rfl, S', n', rfl⟩
          case no => rintro H5 ⟨h, _⟩; cases h
          rintro H5 ⟨_, S', n', rfl⟩
          have hle5 : Hle H0 (H4.set m (.iset S' n')) := hle3.upd hmn
          have hx5 : (H4.set m (.iset S' n')) x = some (.inst 406 dx) := Hp.set_ne (Hp.ne_of hx3 hm3 (fun q => by cases q)) hx3
          have hdx5 : (H4.set m (.iset S' n')) dx = some (.attrs [(Str.ofString "span", .int ((hs.length : Int) + 1)), (Str.ofString "met", .ref m)]) := Hp.set_ne (Hp.ne_of hdx3 hm3 (fun q => by cases q)) hdx3
          have hm5 : (H4.set m (.iset S' n')) m = some (.iset S' n') := Hp.set_eq
          have hwk5 : (H4.set m (.iset S' n')) wk = some (.lst []) := Hp.set_ne (Hp.ne_of hwk3 hm3 (fun q => by cases q)) hwk3
          generalize H4.set m (.iset S' n') = H5 at hle5 hx5 hdx5 hm5 hwk5 ⊢
          have hled := hle5.to_del hwn
          refine' Ex.expr (Ev.call (d' := 60) (g_push_pairs rfl) fn_417 ?pa (push_pairs_is (H0 := H5.del wk) Hle.del (B0.le hled) (hled _ _ hhp0) (hled _ _ e1) (hled _ _ e2) hwk5 Hp.del_eq (fun H' h => hw H' (hled.trans h)) hn2 el er pl0 pl1 pr0 pr1 hga hgb) (by decide)) ?_
          case pa => wtm_at "q_ev"
          rintro v H6 ⟨rfl, hle6, vs6, hwk6, hp6⟩
          refine Ex.nil ?_
          refine Ex.nil ?_
          have hlen6 : (revPairs ga gb n2 n2).length ≤ 2 := by
            rcases (show n2 = 0 ∨ n2 = 1 ∨ n2 = 2 by omega) with h | h | h <;> subst h <;> simp [revPairs]
          exact ⟨(false, (revPairs ga gb n2 n2).length), by rw [hs1]; simp; omega, _, vs6, S', n', _, _, _, rfl, hled.trans hle6, hle6 _ _ (Hp.del_kind hwk5 hx5 (fun q => by cases q)), hle6 _ _ (Hp.del_kind hwk5 hdx5 (fun q => by cases q)), hle6 _ _ (Hp.del_kind hwk5 hm5 (fun q => by cases q)), hwk6, hp6, rfl, hlen6, by rw [if_neg (by simp)]; exact hres⟩
end
section
-- T5
theorem Flat2.le {w : World} {H0 H1 : Hp} {st a b : Addr} {z : Int} (h : Flat2 w H0 st a b z) (l : Hle H0 H1) : Flat2 w H1 st a b z := by
  obtain ⟨d1, d2, t, k, t', k', h1, h2, e1, e2, hr⟩ := h
  exact ⟨d1, d2, t, k, t', k', (fun H' h => h1 H' (l.trans h)), (fun H' h => h2 H' (l.trans h)), l _ _ e1, l _ _ e2, hr.imp id fun ⟨x, y, g⟩ => ⟨x, y, fun H' h => g H' (l.trans h)⟩⟩
theorem Res.le {w : World} {H0 H1 : Hp} {st : Addr} {z : Int} {ps : List (Addr × Addr)} (h : Res w H0 st z ps) (l : Hle H0 H1) : Res w H1 st z ps := by
  induction h with
  | nil e => exact .nil e
  | same h _ ih => exact .same (h.le l) ih
  | diff h e => exact .diff (h.le l) e
theorem Deep2.le {w : World} {H0 H1 : Hp} {st hp a b : Addr} {z : Int} (h : Deep2 w H0 st hp a b z) (l : Hle H0 H1) : Deep2 w H1 st hp a b z := by
  obtain ⟨d1, d2, t1, k1, t2, k2, n2, pl, pr, ga, gb, hs, hd1, hd2, e1, e2, hne, htop, ht12, hhs, hhz, hw, hn2, el, er, pl0, pl1, pr0, pr1, hga, hgb, hres⟩ := h
  exact ⟨d1, d2, t1, k1, t2, k2, n2, pl, pr, ga, gb, hs, (fun H' h => hd1 H' (l.trans h)), (fun H' h => hd2 H' (l.trans h)), l _ _ e1, l _ _ e2, hne, (fun H' h => htop H' (l.trans h)), ht12, l _ _ hhs, hhz, (fun H' h => hw H' (l.trans h)), hn2, el, er, pl0, pl1, pr0, pr1, hga, hgb, hres.le l⟩
noncomputable def CmpI (w : World) (H0 : Hp) (st a b : Addr) (z : Int) : Prop := ∀ H', Hle H0 H' → SpP w 40 452 [.ref st, .ref a, .ref b] H' (.int z)
theorem cmpI_of {w : World} {H0 : Hp} {st sx hp sk tr bk bx tx an fn nn : Addr} (B0 : Base H0 st sx hp sk tr bk bx tx an fn nn) {hs : List SV} (hhp0 : H0 hp = some (.lst hs)) (hz : hs.length ≤ 100000) {c1 c2 : Addr} {z : Int} (hc : Flat2 w H0 st c1 c2 z ∨ Deep2 w H0 st hp c1 c2 z) : CmpI w H0 st c1 c2 z :=
  fun H' l => (compare_is (B0.le l) (l _ _ hhp0) hz (hc.imp (fun h => h.le l) fun h => h.le l)).forget
theorem intL_get {ns : List Int} {i : Nat} {x : Int} (h : ns[i]? = some x) : (ns.map SV.int)[(i : Int).toNat]? = some (.int x) := by
  rw [Int.toNat_natCast, List.getElem?_map, h]; rfl
theorem merge_is {w : World} {H0 : Hp} {st kl la ra : Addr} {kv : List SV} {ls rs : List Int} {z : Int → Int → Int} {u : Bool} (hk : H0 kl = some (.lst kv)) (hl : H0 la = some (intL ls)) (hr : H0 ra = some (intL rs)) (zl : ls.length ≤ 1000) (zr : rs.length ≤ 1000)
  (hc : ∀ a ∈ ls, ∀ b ∈ rs, ∃ ca cb, 0 ≤ a ∧ a < 1000 ∧ 0 ≤ b ∧ b < 1000 ∧ kv[a.toNat]? = some (.ref ca) ∧ kv[b.toNat]? = some (.ref cb) ∧ CmpI w H0 st ca cb (z a b)) :
  Sp w 30 459 [.ref st, .ref kl, .ref la, .ref ra, .bool u] H0 (fun v H' => ∃ mg, v = .ref mg ∧ H0 mg = none ∧ Hle H0 H' ∧ H' mg = some (intL (mergeL z u ls rs))) := by
  refine Sp.fn (fi := F459) [Str.ofString "store", Str.ofString "keys", Str.ofString "left", Str.ofString "right", Str.ofString "unique"] [Str.ofString "merged", Str.ofString "i", Str.ofString "j", Str.ofString "result"] (fun P => rfl) (fun P => rfl) F459.good rfl rfl ?hb rfl (by decide) ?_
  case hb => wtm_at "q_bind"
  with_unfolding_all show Ex _ _ _ (_ :: _) _ (_ :: _) _
  refine' Ex.assignK (i := 5) (Ev.list (vs := []) EvL.nil) (by wtm_at "q_vat") ?_
  rintro v H1 ⟨mg, rfl, hmn, rfl⟩
  refine Ex.assign (i := 6) Ev.int (by wtm_at "q_vat") ?_
  refine Ex.assign (i := 7) Ev.int (by wtm_at "q_vat") ?_
  refine Ex.while (σ := Nat × Nat) (fun c N' H' => ∃ os r, N' = [.ref st, .ref kl, .ref la, .ref ra, .bool u, .ref mg, .int (c.1 : Int), .int (c.2 : Int), r] ∧ Hle H0 H' ∧ H' mg = some (intL os) ∧ c.1 ≤ ls.length ∧ c.2 ≤ rs.length ∧ os ++ mergeL z u (ls.drop c.1) (rs.drop c.2) = mergeL z u ls rs ∧ os.length ≤ c.1 + c.2)
    (fun c => (ls.length - c.1) + (rs.length - c.2)) (fun N' H' => ∃ os r i j, N' = [.ref st, .ref kl, .ref la, .ref ra, .bool u, .ref mg, .int ((i : Nat) : Int), .int ((j : Nat) : Int), r] ∧ Hle H0 H' ∧ H' mg = some (intL os) ∧ os ++ ls.drop i ++ rs.drop j = mergeL z u ls rs ∧ os.length ≤ i + j ∧ i ≤ ls.length ∧ j ≤ rs.length) (0, 0) ?start ?turn ?exit
  case start => exact ⟨[], _, rfl, Hle.rfl.new hmn, Hp.set_eq, Nat.zero_le _, Nat.zero_le _, rfl, Nat.le_refl _⟩
  case exit =>
    rintro N' H' ⟨os, r, i, j, rfl, hle, hm, he, hz, hi, hj⟩
    have hl' := hle _ _ hl
    have hr' := hle _ _ hr
    refine' Ex.expr (Ev.extend (K := fun v H3 => v = .none ∧ Hle H0 H3 ∧ H3 mg = some (intL (os ++ ls.drop i))) ?o hm (Ev.sliceFrom (k := (i : Int)) ?e ?i hl' (by omega) (by omega)) ?k) ?_
    case o => wtm_at "q_ev"
    case e => wtm_at "q_ev"
    case i => wtm_at "q_ev"
    case k =>
      rintro v H3 ⟨b, rfl, hb, rfl⟩
      exact ⟨b, _, os, rfl, Hp.set_eq, Hp.set_new hb hm, Hp.ne_none hb hm, by simp; omega, rfl, (hle.new hb).upd hmn, Hp.set_eq⟩
    rintro v H3 ⟨rfl, hle3, hm3⟩
    have hr3 := hle3 _ _ hr
    refine' Ex.expr (Ev.extend (K := fun v H4 => v = .none ∧ Hle H0 H4 ∧ H4 mg = some (intL (mergeL z u ls rs))) ?o hm3 (Ev.sliceFrom (k := (j : Int)) ?e ?i hr3 (by omega) (by omega)) ?k) ?_
    case o => wtm_at "q_ev"
    case e => wtm_at "q_ev"
    case i => wtm_at "q_ev"
    case k =>
      rintro v H4 ⟨b, rfl, hb, rfl⟩
      refine ⟨b, _, os ++ ls.drop i, rfl, Hp.set_eq, Hp.set_new hb hm3, Hp.ne_none hb hm3, by simp; omega, rfl, (hle3.new hb).upd hmn, ?_⟩
      have : ((j : Nat) : Int).toNat = j := Int.toNat_natCast j
      rw [this, he]
      exact Hp.set_eq
    rintro v H4 ⟨rfl, hle4, hm4⟩
    refine Ex.ret ?_ ⟨mg, rfl, hmn, hle4, hm4⟩
    wtm_at "q_ev"
  case turn =>
    rintro ⟨i, j⟩ N' H' ⟨os, r, rfl, hle, hm, hi, hj, he, hz⟩
    dsimp only at hi hj he hz
    have hl' := hle _ _ hl
    have hr' := hle _ _ hr
    have hk' := hle _ _ hk
    refine' EvB.pure (b := decide ((i : Int) < ((ls.map SV.int).length : Int)) && decide ((j : Int) < ((rs.map SV.int).length : Int))) ?test ?go
    case test =>
      refine' EvB.and2 ?ta (fun _ => ?tb)
      case ta => wtm_at "q_ev"
      case tb => wtm_at "q_ev"
    case go =>
      by_cases hi1 : i < ls.length
      · by_cases hj1 : j < rs.length
        · rw [if_pos (by simp; omega)]
          obtain ⟨ca, cb, a0, a1, b0, b1, ka, kb, hC⟩ := hc _ (List.getElem_mem hi1) _ (List.getElem_mem hj1)
          have gi : (ls.map SV.int)[(i : Int).toNat]? = some (.int ls[i]) := intL_get (List.getElem?_eq_getElem hi1)
          have gj : (rs.map SV.int)[(j : Int).toNat]? = some (.int rs[j]) := intL_get (List.getElem?_eq_getElem hj1)
          have hC' := hC H' hle
          have hs := mergeL_step (z := z) (u := u) hi1 hj1
          have ei : ls.getD (Int.toNat (i : Int)) 0 = ls[i] := by simp [List.getD, hi1]
          have ej : rs.getD (Int.toNat (j : Int)) 0 = rs[j] := by simp [List.getD, hj1]
          rw [ei, ej] at hs
          wtm_at "q_st"
          wtm_at "q_st"
          · refine' Ex.expr (Ev.append (K1 := fun v H3 => v = .int rs[j] ∧ H3 = H') (K := fun v H3 => v = .none ∧ H3 = H'.set mg (.lst (os.map SV.int ++ [.int rs[j]]))) ?o hm ?e ?k) ?_
            case o => wtm_at "q_ev"
            case e => wtm_at "q_ev"
            case k => rintro v H3 ⟨rfl, rfl⟩; exact ⟨_, hm, by simp; omega, rfl, rfl⟩
            rintro v H3 ⟨rfl, rfl⟩
            have hle3 : Hle H0 (H'.set mg (.lst (os.map SV.int ++ [.int rs[j]]))) := hle.upd hmn
            have hm3 : (H'.set mg (.lst (os.map SV.int ++ [.int rs[j]]))) mg = some (intL (os ++ [rs[j]])) := by rw [intL, List.map_append]; exact Hp.set_eq
            wtm_at "q_st"
            rw [if_neg (by assumption)] at hs
            refine Ex.nil (Ex.nil ⟨(i, j + 1), by dsimp only; omega, os ++ [rs[j]], _, rfl, hle3, hm3, by dsimp only; omega, by dsimp only; omega, by dsimp only; rw [List.append_assoc, ← he, hs]; rfl, by simp; omega⟩)
          · refine' Ex.expr (Ev.append (K1 := fun v H3 => v = .int ls[i] ∧ H3 = H') (K := fun v H3 => v = .none ∧ H3 = H'.set mg (.lst (os.map SV.int ++ [.int ls[i]]))) ?o hm ?e ?k) ?_
            case o => wtm_at "q_ev"
            case e => wtm_at "q_ev"
            case k => rintro v H3 ⟨rfl, rfl⟩; exact ⟨_, hm, by simp; omega, rfl, rfl⟩
            rintro v H3 ⟨rfl, rfl⟩
            have hle3 : Hle H0 (H'.set mg (.lst (os.map SV.int ++ [.int ls[i]]))) := hle.upd hmn
            have hm3 : (H'.set mg (.lst (os.map SV.int ++ [.int ls[i]]))) mg = some (intL (os ++ [ls[i]])) := by rw [intL, List.map_append]; exact Hp.set_eq
            wtm_at "q_st"
            refine' Ex.ite (b := (z ls[i] rs[j] == 0) && u) (EvB.and2 ?ta (fun _ => EvB.val ?tb)) ?yes ?no
            case ta => wtm_at "q_ev"
            case tb => wtm_at "q_ev"
            case yes =>
              intro hb
              simp only [Bool.and_eq_true, beq_iff_eq] at hb
              wtm_at "q_st"
              rw [if_pos (by assumption), if_pos hb] at hs
              refine Ex.nil (Ex.nil (Ex.nil ⟨(i + 1, j + 1), by dsimp only; omega, os ++ [ls[i]], _, rfl, hle3, hm3, by dsimp only; omega, by dsimp only; omega, by dsimp only; rw [List.append_assoc, ← he, hs]; rfl, by simp; omega⟩))
            case no =>
              intro hb
              rw [if_pos (by assumption), if_neg (by simp only [Bool.and_eq_false_iff, beq_eq_false_iff_ne] at hb; intro q; rcases hb with hb | hb; exact hb q.1; rw [q.2] at hb; cases hb)] at hs
              refine Ex.nil (Ex.nil (Ex.nil ⟨(i + 1, j), by dsimp only; omega, os ++ [ls[i]], _, rfl, hle3, hm3, by dsimp only; omega, by dsimp only; omega, by dsimp only; rw [List.append_assoc, ← he, hs]; rfl, by simp; omega⟩))
        · rw [if_neg (by simp; omega)]
          refine ⟨os, r, i, j, rfl, hle, hm, ?_, hz, hi, hj⟩
          have ej : j = rs.length := by omega
          subst ej
          rw [List.drop_length, List.append_nil, ← he, List.drop_length, mergeL_nil]
      · rw [if_neg (by simp; omega)]
        refine ⟨os, r, i, j, rfl, hle, hm, ?_, hz, hi, hj⟩
        have ei : i = ls.length := by omega
        subst ei
        rw [List.drop_length, List.append_nil, ← he, List.drop_length]
        congr 1
        rw [mergeL]
end
section
-- T6
noncomputable def tabS (T : List Str) : List (Str × SV) := T.mapIdx fun i x => (x, SV.int (i : Int))
noncomputable def tabT (F : List (Addr × Int × Int)) : List ((Int × Int) × Addr × Int) := F.mapIdx fun i p => ((p.2.1, p.2.2), p.1, (i : Int))
theorem tabS_snoc (T : List Str) (x : Str) : tabS (T ++ [x]) = tabS T ++ [(x, SV.int (T.length : Int))] := by simp [tabS, List.mapIdx_append]
theorem tabT_snoc (F : List (Addr × Int × Int)) (k : Addr) (a n : Int) : tabT (F ++ [(k, a, n)]) = tabT F ++ [((a, n), k, (F.length : Int))] := by simp [tabT, List.mapIdx_append]
theorem lookup_mem {α : Type} {es : List (Str × α)} {x : Str} {v : α} (h : es.lookup x = some v) : (x, v) ∈ es := by
  induction es with
  | nil => cases h
  | cons p es ih =>
    obtain ⟨y, u⟩ := p
    by_cases hx : x = y
    · subst hx
      rw [List.lookup_cons, beq_self_eq_true] at h; cases h
      exact List.mem_cons_self
    · rw [List.lookup_cons, beq_eq_false_iff_ne.mpr hx] at h
      exact List.mem_cons_of_mem _ (ih h)
theorem tabS_look {T : List Str} {x : Str} {v : SV} (h : (tabS T).lookup x = some v) : ∃ i : Nat, v = .int (i : Int) ∧ T[i]? = some x := by
  have h1 := lookup_mem h
  unfold tabS at h1
  rw [List.mem_mapIdx] at h1
  obtain ⟨i, hi, e⟩ := h1
  cases e
  exact ⟨i, rfl, List.getElem?_eq_getElem hi⟩
theorem tabT_look {F : List (Addr × Int × Int)} {a n z : Int} (h : ttLook (tabT F) a n = some z) : ∃ (i : Nat) (k : Addr), z = (i : Int) ∧ F[i]? = some (k, a, n) := by
  unfold ttLook at h
  obtain ⟨p, hp, e⟩ := Option.map_eq_some_iff.mp h
  have h1 := List.mem_of_find?_eq_some hp
  have h2 := List.find?_some hp
  unfold tabT at h1
  rw [List.mem_mapIdx] at h1
  obtain ⟨i, hi, e2⟩ := h1
  subst e2
  simp only [decide_eq_true_eq, Prod.mk.injEq] at h2
  refine ⟨i, F[i].1, e.symm, ?_⟩
  rw [List.getElem?_eq_getElem hi, ← h2.1, ← h2.2]
/-- nothing else is turned -/
noncomputable def Off (l : List Addr) (H H' : Hp) : Prop := ∀ b o, b ∉ l → H b = some o → H' b = some o
theorem Off.rfl {l : List Addr} {H : Hp} : Off l H H := fun _ _ _ h => h
theorem Off.trans {l : List Addr} {H H' H'' : Hp} (h : Off l H H') (h' : Off l H' H'') : Off l H H'' := fun b o hb e => h' b o hb (h b o hb e)
theorem Off.more {l l' : List Addr} {H H' : Hp} (h : Off l H H') (hs : ∀ a ∈ l, a ∈ l') : Off l' H H' := fun b o hb e => h b o (fun q => hb (hs _ q)) e
theorem Off.of_le {l : List Addr} {H H' : Hp} (h : Hle H H') : Off l H H' := fun b o _ e => h b o e
theorem Off.set {l : List Addr} {H H' : Hp} {a : Addr} {o : SO} (h : Off l H H') (ha : a ∈ l) : Off l H (H'.set a o) := fun b o' hb e => Hp.set_ne (fun q => hb (q ▸ ha)) (h b o' hb e)
theorem Off.new {l : List Addr} {H H' : Hp} {a : Addr} {o : SO} (h : Off l H H') (ha : H' a = none) : Off l H (H'.set a o) := fun b o' hb e => Hp.set_new ha (h b o' hb e)
/-- the book's tables: T the atoms' texts, F the functors with their keys -/
structure BookI (H : Hp) (tx an fn nn : Addr) (T : List Str) (F : List (Addr × Int × Int)) : Prop where
  ptx : H tx = some (.lst (T.map SV.str))
  pan : H an = some (.stab (tabS T))
  pfn : H fn = some (.lst (F.map fun p => SV.ref p.1))
  pnn : H nn = some (.ttab (tabT F))
  pks : ∀ p ∈ F, H p.1 = some (cellO p.2.1 p.2.2)
  pne : tx ≠ fn
  pla : (an == sysModules) = false
  plf : (nn == sysModules) = false
  pnd : T.Nodup
  pnf : (F.map (·.2)).Nodup
theorem BookI.keysAt {H : Hp} {tx an fn nn : Addr} {T : List Str} {F : List (Addr × Int × Int)} (b : BookI H tx an fn nn T F) : KeysAt H (tabT F) := by
  intro x hx
  unfold tabT at hx
  rw [List.mem_mapIdx] at hx
  obtain ⟨i, hi, e⟩ := hx
  subst e
  exact b.pks _ (List.getElem_mem hi)
theorem BookI.off {H H' : Hp} {tx an fn nn : Addr} {T : List Str} {F : List (Addr × Int × Int)} {l : List Addr} (b : BookI H tx an fn nn T F) (h : Off l H H') (h1 : tx ∉ l) (h2 : an ∉ l) (h3 : fn ∉ l) (h4 : nn ∉ l) (h5 : ∀ p ∈ F, p.1 ∉ l) : BookI H' tx an fn nn T F :=
  ⟨h _ _ h1 b.ptx, h _ _ h2 b.pan, h _ _ h3 b.pfn, h _ _ h4 b.pnn, fun p hp => h _ _ (h5 p hp) (b.pks p hp), b.pne, b.pla, b.plf, b.pnd, b.pnf⟩
theorem BookI.le {H H' : Hp} {tx an fn nn : Addr} {T : List Str} {F : List (Addr × Int × Int)} (b : BookI H tx an fn nn T F) (h : Hle H H') : BookI H' tx an fn nn T F :=
  ⟨h _ _ b.ptx, h _ _ b.pan, h _ _ b.pfn, h _ _ b.pnn, fun p hp => h _ _ (b.pks p hp), b.pne, b.pla, b.plf, b.pnd, b.pnf⟩
theorem atom_is {w : World} {H : Hp} {bk bx tx an fn nn : Addr} (hbk : H bk = some (.inst 154 bx)) (hbx : H bx = some (bkO tx an fn nn)) {T : List Str} {F : List (Addr × Int × Int)} (b : BookI H tx an fn nn T F) (hT : T.length ≤ 10000) {x : Str} : Sp w 60 88 [.ref bk, .str x] H (fun r H' => ∃ T' q, r = .int ((q : Nat) : Int) ∧ T'[q]? = some x ∧ T <+: T' ∧ T'.length ≤ T.length + 1 ∧ BookI H' tx an fn nn T' F ∧ Off [tx, an] H H' ∧ (x ∈ T → T' = T ∧ H' = H)) := by
  refine Sp.fn (fi := F88) [Str.ofString "self", Str.ofString "text"] [Str.ofString "found", Str.ofString "number"] (fun P => rfl) (fun P => rfl) F88.good rfl rfl ?hb rfl (by decide) ?_
  case hb => wtm_at "q_bind"
  with_unfolding_all show Ex _ _ _ (_ :: _) _ (_ :: _) _
  have hla := b.pla
  have han := b.pan
  have htx := b.ptx
  have e0 : tx ≠ an := Hp.ne_of htx han (fun q => by cases q)
  cases q : (tabS T).lookup x with
  | some v =>
    obtain ⟨i, rfl, hi⟩ := tabS_look q
    refine' Ex.assign (i := 2) (v := .int (i : Int)) (Ev.getS (z := .int (-1)) ?o han hla ?k ?e (by rw [q]; rfl)) (by wtm_at "q_vat") ?_
    case o => wtm_at "q_ev"
    case k => wtm_at "q_ev"
    case e => wtm_at "q_ev"
    wtm_at "q_st"
    wtm_at "q_st"
    exact ⟨T, i, rfl, hi, List.prefix_rfl, Nat.le_succ _, b, Off.rfl, fun _ => ⟨rfl, rfl⟩⟩
  | none =>
    refine' Ex.assign (i := 2) (v := .int (-1)) (Ev.getS (z := .int (-1)) ?o han hla ?k ?e (by rw [q]; rfl)) (by wtm_at "q_vat") ?_
    case o => wtm_at "q_ev"
    case k => wtm_at "q_ev"
    case e => wtm_at "q_ev"
    wtm_at "q_st"
    wtm_at "q_st"
    wtm_at "q_st"
    refine' Ex.expr (Ev.append (K1 := fun v H3 => v = .str x ∧ H3 = H) (K := fun v H3 => v = .none ∧ H3 = H.set tx (.lst (T.map SV.str ++ [.str x]))) ?o htx ?e ?k) ?_
    case o => wtm_at "q_ev"
    case e => wtm_at "q_ev"
    case k => rintro v H3 ⟨rfl, rfl⟩; exact ⟨_, htx, by simp; omega, rfl, rfl⟩
    rintro v H3 ⟨rfl, rfl⟩
    have hbk3 := Hp.set_ne (o := .lst (T.map SV.str ++ [.str x])) (Hp.ne_of hbk htx (fun q => by cases q)) hbk
    have hbx3 := Hp.set_ne (o := .lst (T.map SV.str ++ [.str x])) (Hp.ne_of hbx htx (fun q => by cases q)) hbx
    have han3 := Hp.set_ne (o := .lst (T.map SV.str ++ [.str x])) e0.symm han
    refine' Ex.setS (v := .int ((T.map SV.str).length : Int)) ?e ?o ?i han3 q (by simp [tabS]; omega) ?_
    case e => wtm_at "q_ev"
    case o => wtm_at "q_ev"
    case i => wtm_at "q_ev"
    refine' Ex.ret (v := .int ((T.map SV.str).length : Int)) ?e ?_
    case e => wtm_at "q_ev"
    have hxT : x ∉ T := by
      intro hm
      obtain ⟨i, hi, e⟩ := List.getElem_of_mem hm
      have : (x, SV.int (i : Int)) ∈ tabS T := by
        unfold tabS; rw [List.mem_mapIdx]; exact ⟨i, hi, by rw [e]⟩
      have h2 := List.lookup_eq_none_iff.mp q _ this
      simp at h2
    refine ⟨T ++ [x], T.length, by simp, by simp, List.prefix_append _ _, by simp, ⟨?_, ?_, ?_, ?_, ?_, b.pne, b.pla, b.plf, List.nodup_append.mpr ⟨b.pnd, by simp, fun a ha b' hb' => by simp at hb'; rw [hb']; intro e; exact hxT (e ▸ ha)⟩, b.pnf⟩, (Off.rfl.set (by simp)).set (by simp), fun hm => absurd hm hxT⟩
    · exact Hp.set_ne e0 (by rw [List.map_append]; exact Hp.set_eq)
    · rw [tabS_snoc]; simp only [List.length_map]; exact Hp.set_eq
    · exact Hp.set_ne (Hp.ne_of b.pfn han (fun q => by cases q)) (Hp.set_ne b.pne.symm b.pfn)
    · exact Hp.set_ne (Hp.ne_of b.pnn han (fun q => by cases q)) (Hp.set_ne (Hp.ne_of b.pnn htx (fun q => by cases q)) b.pnn)
    · intro p hp
      have := b.pks p hp
      exact Hp.set_ne (Hp.ne_of this han (fun q => by cases q)) (Hp.set_ne (Hp.ne_of this htx (fun q => by cases q)) this)
theorem functor_is {w : World} {H : Hp} {bk bx tx an fn nn : Addr} (hbk : H bk = some (.inst 154 bx)) (hbx : H bx = some (bkO tx an fn nn)) {T : List Str} {F : List (Addr × Int × Int)} (b : BookI H tx an fn nn T F) (hF : F.length ≤ 10000) {a n : Int} : Sp w 60 102 [.ref bk, .int a, .int n] H (fun r H' => ∃ F' q k, r = .int ((q : Nat) : Int) ∧ F'[q]? = some (k, a, n) ∧ F <+: F' ∧ F'.length ≤ F.length + 1 ∧ BookI H' tx an fn nn T F' ∧ Off [fn, nn] H H') := by
  refine Sp.fn (fi := F102) [Str.ofString "self", Str.ofString "atom", Str.ofString "arity"] [Str.ofString "key", Str.ofString "found", Str.ofString "number"] (fun P => rfl) (fun P => rfl) F102.good rfl rfl ?hb rfl (by decide) ?_
  case hb => wtm_at "q_bind"
  with_unfolding_all show Ex _ _ _ (_ :: _) _ (_ :: _) _
  have hlf := b.plf
  have hnn := b.pnn
  have hfn := b.pfn
  have e0 : fn ≠ nn := Hp.ne_of hfn hnn (fun q => by cases q)
  refine' Ex.assignK (i := 3) (Ev.tup (vs := [.int a, .int n]) ?t (by simp)) (by wtm_at "q_vat") ?_
  case t => wtm_at "q_ev"
  rintro v H1 ⟨k, rfl, hk, rfl⟩
  have hle : Hle H (H.set k (.tup [.int a, .int n])) := Hle.rfl.new hk
  have b1 := b.le hle
  have hk1 : (H.set k (.tup [.int a, .int n])) k = some (cellO a n) := Hp.set_eq
  have hbk1 := hle _ _ hbk
  have hbx1 := hle _ _ hbx
  have hkF : ∀ p ∈ F, p.1 ≠ k := fun p hp q => by have := b.pks p hp; rw [q, hk] at this; cases this
  generalize H.set k (.tup [.int a, .int n]) = H1 at hle b1 hk1 hbk1 hbx1 ⊢
  have hnn1 := b1.pnn
  have hfn1 := b1.pfn
  have hks1 := b1.keysAt
  cases q : ttLook (tabT F) a n with
  | some z =>
    obtain ⟨i, k0, rfl, hi⟩ := tabT_look q
    refine' Ex.assign (i := 4) (Ev.getT (z := -1) (r := (i : Int)) ?o hnn1 hlf hks1 ?k hk1 ?e (by rw [q]; rfl)) (by wtm_at "q_vat") ?_
    case o => wtm_at "q_ev"
    case k => wtm_at "q_ev"
    case e => wtm_at "q_ev"
    wtm_at "q_st"
    wtm_at "q_st"
    exact ⟨F, i, k0, rfl, hi, List.prefix_rfl, Nat.le_succ _, b1, Off.of_le hle⟩
  | none =>
    refine' Ex.assign (i := 4) (Ev.getT (z := -1) (r := -1) ?o hnn1 hlf hks1 ?k hk1 ?e (by rw [q]; rfl)) (by wtm_at "q_vat") ?_
    case o => wtm_at "q_ev"
    case k => wtm_at "q_ev"
    case e => wtm_at "q_ev"
    wtm_at "q_st"
    wtm_at "q_st"
    wtm_at "q_st"
    refine' Ex.expr (Ev.append (K1 := fun v H3 => v = .ref k ∧ H3 = H1) (K := fun v H3 => v = .none ∧ H3 = H1.set fn (.lst ((F.map fun p => SV.ref p.1) ++ [.ref k]))) ?o hfn1 ?e ?k) ?_
    case o => wtm_at "q_ev"
    case e => wtm_at "q_ev"
    case k => rintro v H3 ⟨rfl, rfl⟩; exact ⟨_, hfn1, by simp; omega, rfl, rfl⟩
    rintro v H3 ⟨rfl, rfl⟩
    have hbk3 := Hp.set_ne (o := .lst ((F.map fun p => SV.ref p.1) ++ [.ref k])) (Hp.ne_of hbk1 hfn1 (fun q => by cases q)) hbk1
    have hbx3 := Hp.set_ne (o := .lst ((F.map fun p => SV.ref p.1) ++ [.ref k])) (Hp.ne_of hbx1 hfn1 (fun q => by cases q)) hbx1
    have hnn3 := Hp.set_ne (o := .lst ((F.map fun p => SV.ref p.1) ++ [.ref k])) e0.symm hnn1
    have hk3 := Hp.set_ne (o := .lst ((F.map fun p => SV.ref p.1) ++ [.ref k])) (Hp.ne_of hk1 hfn1 (fun q => by cases q)) hk1
    have hks3 : KeysAt (H1.set fn (.lst ((F.map fun p => SV.ref p.1) ++ [.ref k]))) (tabT F) := fun x hx => Hp.set_ne (Hp.ne_of (hks1 x hx) hfn1 (fun q => by cases q)) (hks1 x hx)
    refine' Ex.setT (z := ((F.map fun p => SV.ref p.1).length : Int)) ?e ?o ?i hnn3 hks3 hk3 q (by simp [tabT]; omega) ?_
    case e => wtm_at "q_ev"
    case o => wtm_at "q_ev"
    case i => wtm_at "q_ev"
    refine' Ex.ret (v := .int ((F.map fun p => SV.ref p.1).length : Int)) ?e ?_
    case e => wtm_at "q_ev"
    have hkT : (a, n) ∉ F.map (·.2) := by
      intro hm
      obtain ⟨p, hp, e⟩ := List.mem_map.mp hm
      obtain ⟨i, hi, e2⟩ := List.getElem_of_mem hp
      unfold ttLook at q
      rw [Option.map_eq_none_iff, List.find?_eq_none] at q
      have := q ((p.2.1, p.2.2), p.1, (i : Int)) (by unfold tabT; rw [List.mem_mapIdx]; exact ⟨i, hi, by rw [e2]⟩)
      simp [e] at this
    refine ⟨F ++ [(k, a, n)], F.length, k, by simp, by simp, List.prefix_append _ _, by simp, ⟨?_, ?_, ?_, ?_, ?_, b.pne, b.pla, b.plf, b.pnd, by rw [List.map_append]; exact List.nodup_append.mpr ⟨b.pnf, by simp, fun a' ha' b' hb' => by simp at hb'; rw [hb']; intro e; exact hkT (e ▸ ha')⟩⟩, ((Off.of_le hle).set (by simp)).set (by simp)⟩
    · exact Hp.set_ne (Hp.ne_of b1.ptx hnn1 (fun q => by cases q)) (Hp.set_ne b.pne b1.ptx)
    · exact Hp.set_ne (Hp.ne_of b1.pan hnn1 (fun q => by cases q)) (Hp.set_ne (Hp.ne_of b1.pan hfn1 (fun q => by cases q)) b1.pan)
    · exact Hp.set_ne e0 (by rw [List.map_append]; exact Hp.set_eq)
    · rw [tabT_snoc]; simp only [List.length_map]; exact Hp.set_eq
    · intro p hp
      rcases List.mem_append.mp hp with hp | hp
      · have := b1.pks p hp
        exact Hp.set_ne (Hp.ne_of this hnn1 (fun q => by cases q)) (Hp.set_ne (Hp.ne_of this hfn1 (fun q => by cases q)) this)
      · rw [List.mem_singleton] at hp
        subst hp
        exact Hp.set_ne (Hp.ne_of hk1 hnn1 (fun q => by cases q)) hk3
theorem func_is {w : World} {H : Hp} {bk bx tx an fn nn : Addr} (hbk : H bk = some (.inst 154 bx)) (hbx : H bx = some (bkO tx an fn nn)) {T : List Str} {F : List (Addr × Int × Int)} (b : BookI H tx an fn nn T F) (hT : T.length ≤ 10000) (hF : F.length ≤ 10000) {x : Str} {n : Int} : Sp w 55 109 [.ref bk, .str x, .int n] H (fun r H' => ∃ T' F' q k a, r = .int ((q : Nat) : Int) ∧ F'[q]? = some (k, ((a : Nat) : Int), n) ∧ T'[a]? = some x ∧ F <+: F' ∧ F'.length ≤ F.length + 1 ∧ T <+: T' ∧ T'.length ≤ T.length + 1 ∧ BookI H' tx an fn nn T' F' ∧ Off [tx, an, fn, nn] H H' ∧ (x ∈ T → T' = T)) := by
  refine Sp.fn (fi := F109) [Str.ofString "self", Str.ofString "text", Str.ofString "arity"] [] (fun P => rfl) (fun P => rfl) F109.good rfl rfl ?hb rfl (by decide) ?_
  case hb => wtm_at "q_bind"
  with_unfolding_all show Ex _ _ _ (_ :: _) _ (_ :: _) _
  refine' Ex.retK (Ev.methK (d' := 60) (KA := fun vs H1 => ∃ T' q, vs = [.int ((q : Nat) : Int), .int n] ∧ T'[q]? = some x ∧ T <+: T' ∧ T'.length ≤ T.length + 1 ∧ BookI H1 tx an fn nn T' F ∧ Off [tx, an] H H1 ∧ (x ∈ T → T' = T)) ?o hbk hbx rfl cm_154_functor (EvL.consK (Ev.meth (d' := 60) ?o2 hbk hbx rfl cm_154_atom ?a2 (atom_is hbk hbx b hT) (by decide)) ?k2) ?s (by decide))
  case o => wtm_at "q_ev"
  case o2 => wtm_at "q_ev"
  case a2 => wtm_at "q_ev"
  case k2 =>
    rintro v H1 ⟨T', q, rfl, h1, h2, h3, h4, h5, h6⟩
    refine' (EvL.cons (v := .int n) (vs := []) ?e EvL.nil).mono ?_
    case e => wtm_at "q_ev"
    rintro vs H2 ⟨rfl, rfl⟩
    exact ⟨T', q, rfl, h1, h2, h3, h4, h5, fun h => (h6 h).1⟩
  case s =>
    rintro vs H1 ⟨T', q, rfl, h1, h2, h3, h4, h5, h6⟩
    have c1 : bk ∉ [tx, an] := by simp; exact ⟨Hp.ne_of hbk b.ptx (fun q => by cases q), Hp.ne_of hbk b.pan (fun q => by cases q)⟩
    have c2 : bx ∉ [tx, an] := by simp; exact ⟨Hp.ne_of hbx b.ptx (fun q => by cases q), Hp.ne_of hbx b.pan (fun q => by cases q)⟩
    refine (functor_is (h5 _ _ c1 hbk) (h5 _ _ c2 hbx) h4 hF).mono ?_
    rintro r H2 ⟨F', q2, k, rfl, g1, g2, g3, g4, g5⟩
    exact ⟨T', F', q2, k, q, rfl, g1, h1, g2, g3, h2, h3, g4, (h5.more (by simp)).trans (g5.more (by simp)), h6⟩
end
section
-- T7
/-- rows (text, number) of a table, as tuples in the heap -/
inductive RowsAt (H : Hp) : List SV → List (Str × Int) → Prop
  | nil : RowsAt H [] []
  | cons {t : Addr} {x : Str} {n : Int} {vs : List SV} {xs : List (Str × Int)} : H t = some (.tup [.str x, .int n]) → RowsAt H vs xs → RowsAt H (.ref t :: vs) ((x, n) :: xs)
theorem RowsAt.le {H H' : Hp} {vs : List SV} {xs : List (Str × Int)} (h : RowsAt H vs xs) (l : Hle H H') : RowsAt H' vs xs := by
  induction h with
  | nil => exact .nil
  | cons e _ ih => exact .cons (l _ _ e) ih
theorem RowsAt.length {H : Hp} {vs : List SV} {xs : List (Str × Int)} (h : RowsAt H vs xs) : vs.length = xs.length := by
  induction h with
  | nil => rfl
  | cons _ _ ih => simp [ih]
theorem RowsAt.off {H H' : Hp} {vs : List SV} {xs : List (Str × Int)} {tx an fn nn : Addr} {T : List Str} {F : List (Addr × Int × Int)} (h : RowsAt H vs xs) (o : Off [tx, an, fn, nn] H H') (b : BookI H tx an fn nn T F) : RowsAt H' vs xs := by
  induction h with
  | nil => exact .nil
  | cons e _ ih =>
    refine .cons (o _ _ ?_ e) ih
    simp only [List.mem_cons, List.not_mem_nil, or_false, not_or]
    exact ⟨Hp.ne_of e b.ptx (fun q => by cases q), Hp.ne_of e b.pan (fun q => by cases q), Hp.ne_of e b.pfn (fun q => by cases q), Hp.ne_of e b.pnn (fun q => by cases q)⟩
theorem RowsAt.del {H : Hp} {vs vs0 : List SV} {xs : List (Str × Int)} {a : Addr} (h : RowsAt H vs xs) (ha : H a = some (.tup vs0)) (hl : vs0.length ≠ 2) : RowsAt (H.del a) vs xs := by
  induction h with
  | nil => exact .nil
  | cons e _ ih => exact .cons (Hp.del_ne (Hp.ne_of e ha (fun q => by cases q; exact hl rfl)) e) ih
theorem Hle.put_del {H : Hp} {a : Addr} {o : SO} (ha : H a = Option.none) : Hle H ((H.set a o).del a) := (Hle.rfl.new ha).to_del ha
theorem Off.le {l : List Addr} {H0 H H' : Hp} (o : Off l H H') (h : Hle H0 H) (hn : ∀ a ∈ l, H0 a = none) : Hle H0 H' := fun b r e => o b r (fun q => by rw [hn b q] at e; cases e) (h b r e)
noncomputable def EvR (w : World) (d : Nat) (f : FI) (N : List SV) (es : List PySem.Expr) (xs : List (Str × Int)) : Prop := ∀ H, EvL w d f N H es fun vs H' => Hle H H' ∧ RowsAt H' vs xs
theorem EvR.nil {w : World} {d : Nat} {f : FI} {N : List SV} : EvR w d f N [] [] := fun H => EvL.nilK ⟨Hle.rfl, .nil⟩
theorem EvR.cons {w : World} {d : Nat} {f : FI} {N : List SV} {es : List PySem.Expr} {xs : List (Str × Int)} {x : Str} {n : Int} {k1 k2 k3 : Nat} {p1 p2 p3 : Pos} (h : EvR w d f N es xs)
    (hm : ∀ env, starEach (Expr.Tuple [.Constant (.str x) k1 p1, .Constant (.int n) k2 p2] k3 p3 :: es) env = (false, eval (Expr.Tuple [.Constant (.str x) k1 p1, .Constant (.int n) k2 p2] k3 p3) env) :: starEach es env := by intros; exact starEach_plain rfl) :
    EvR w d f N (Expr.Tuple [.Constant (.str x) k1 p1, .Constant (.int n) k2 p2] k3 p3 :: es) ((x, n) :: xs) := fun H =>
  EvL.consK (Ev.tup (vs := [.str x, .int n]) (EvL.cons Ev.str (EvL.cons Ev.int EvL.nil)) (by simp)) (fun v H1 hK => by
    obtain ⟨t, rfl, ht, rfl⟩ := hK
    refine (h _).mono ?_
    rintro vs H2 ⟨hl, hr⟩
    exact ⟨(Hle.rfl.new ht).trans hl, .cons (hl _ _ Hp.set_eq) hr⟩) hm
noncomputable def EvS (w : World) (d : Nat) (f : FI) (N : List SV) (es : List PySem.Expr) (T : List Str) : Prop := ∀ H, EvLP w d f N H es (T.map SV.str)
theorem EvS.nil {w : World} {d : Nat} {f : FI} {N : List SV} : EvS w d f N [] [] := fun H => EvL.nil
theorem EvS.cons {w : World} {d : Nat} {f : FI} {N : List SV} {es : List PySem.Expr} {T : List Str} {x : Str} {k : Nat} {p : Pos} (h : EvS w d f N es T) : EvS w d f N (.Constant (.str x) k p :: es) (x :: T) := fun H => EvL.cons Ev.str (h H)
theorem EvS.use {w : World} {d : Nat} {f : FI} {N : List SV} {H : Hp} {es : List PySem.Expr} {T : List Str} (h : EvS w d f N es T) : EvL w d f N H es (fun vs H1 => vs = List.map SV.str T ∧ H1 = H) := h H
theorem EvR.use {w : World} {d : Nat} {f : FI} {N : List SV} {H : Hp} {es : List PySem.Expr} {xs : List (Str × Int)} (h : EvR w d f N es xs) : EvL w d f N H es (fun vs H' => Hle H H' ∧ RowsAt H' vs xs) := h H
theorem fixed_atoms_is {w : World} {H : Hp} : Sp w 60 60 [] H (fun r H' => ∃ (a : Addr) (vs : List Str), r = .ref a ∧ H a = none ∧ H' = H.set a (.tup (vs.map SV.str)) ∧ vs.length = 29) := by
  refine Sp.fn (fi := F60) [] [] (fun P => rfl) (fun P => rfl) F60.good rfl rfl ?hb rfl (by decide) ?_
  case hb => intro ys hd; cases hd; rfl
  with_unfolding_all show Ex _ _ _ _ _ (_ :: _) _
  with_reducible refine Ex.retK ?_
  with_reducible refine' Ev.tupK (KA := fun vs H1 => vs = List.map SV.str [Str.ofString "[]", Str.ofString ".", Str.ofString "{}", Str.ofString "-", Str.ofString "+", Str.ofString "*", Str.ofString "/", Str.ofString ",", Str.ofString "|", Str.ofString ";", Str.ofString "->", Str.ofString "\\+", Str.ofString ":-", Str.ofString "?-", Str.ofString "-->", Str.ofString "!", Str.ofString "true", Str.ofString "fail", Str.ofString "false", Str.ofString "call", Str.ofString "=", Str.ofString "^", Str.ofString "error", Str.ofString "", Str.ofString "end_of_file", Str.ofString "system", Str.ofString "$VAR", Str.ofString "catch", Str.ofString "throw"] ∧ H1 = H) ?hS ?b
  case hS =>
    with_reducible refine EvS.use ?_
    repeat (first | (with_reducible exact EvS.nil) | (with_reducible refine EvS.cons ?_))
  case b =>
    rintro vs H1 ⟨rfl, rfl⟩
    exact ⟨Nat.le_of_ble_eq_true rfl, fun a ha => ⟨a, [Str.ofString "[]", Str.ofString ".", Str.ofString "{}", Str.ofString "-", Str.ofString "+", Str.ofString "*", Str.ofString "/", Str.ofString ",", Str.ofString "|", Str.ofString ";", Str.ofString "->", Str.ofString "\\+", Str.ofString ":-", Str.ofString "?-", Str.ofString "-->", Str.ofString "!", Str.ofString "true", Str.ofString "fail", Str.ofString "false", Str.ofString "call", Str.ofString "=", Str.ofString "^", Str.ofString "error", Str.ofString "", Str.ofString "end_of_file", Str.ofString "system", Str.ofString "$VAR", Str.ofString "catch", Str.ofString "throw"], rfl, ha, rfl, rfl⟩⟩
theorem fixed_functors_is {w : World} {H : Hp} : Sp w 60 67 [] H (fun r H' => ∃ (a : Addr) (vs : List SV) (xs : List (Str × Int)) (x0 : Str), r = .ref a ∧ H a = none ∧ Hle H H' ∧ H' a = some (.tup vs) ∧ RowsAt H' vs ((x0, 2) :: xs) ∧ xs.length = 31) := by
  refine Sp.fn (fi := F67) [] [] (fun P => rfl) (fun P => rfl) F67.good rfl rfl ?hb rfl (by decide) ?_
  case hb => intro ys hd; cases hd; rfl
  with_unfolding_all show Ex _ _ _ _ _ (_ :: _) _
  with_reducible refine Ex.retK ?_
  with_reducible refine' Ev.tupK (KA := fun vs H' => Hle H H' ∧ RowsAt H' vs [(Str.ofString ".", 2), (Str.ofString ",", 2), (Str.ofString ";", 2), (Str.ofString "->", 2), (Str.ofString "\\+", 1), (Str.ofString ":-", 2), (Str.ofString ":-", 1), (Str.ofString "?-", 1), (Str.ofString "-->", 2), (Str.ofString "{}", 1), (Str.ofString "=", 2), (Str.ofString "^", 2), (Str.ofString "-", 1), (Str.ofString "-", 2), (Str.ofString "+", 2), (Str.ofString "/", 2), (Str.ofString "error", 2), (Str.ofString "$VAR", 1), (Str.ofString "catch", 3), (Str.ofString "throw", 1), (Str.ofString "!", 0), (Str.ofString "true", 0), (Str.ofString "fail", 0), (Str.ofString "false", 0), (Str.ofString "call", 1), (Str.ofString "call", 2), (Str.ofString "call", 3), (Str.ofString "call", 4), (Str.ofString "call", 5), (Str.ofString "call", 6), (Str.ofString "call", 7), (Str.ofString "call", 8)]) ?hR ?k
  case hR =>
    with_reducible refine EvR.use ?_
    repeat (first | (with_reducible exact EvR.nil) | (with_reducible refine EvR.cons ?_))
  case k =>
    rintro vs H1 ⟨hl, hr⟩
    refine ⟨by rw [hr.length]; exact Nat.le_of_ble_eq_true rfl, fun a ha => ⟨a, vs, _, _, rfl, hl.none ha, hl.new ha, Hp.set_eq, hr.le (Hle.rfl.new ha), rfl⟩⟩
theorem stinit {w : World} {H0 H : Hp} {bk bx tx an fn nn x dx : Addr} (hle : Hle H0 H) (hx : H x = some (.inst 380 dx)) (hdx : H dx = some (.attrs [])) (hn : H0 dx = none) :
  Sp w 60 194 [.ref x, .ref bk] H (fun v H' => v = .none ∧ ∃ hp sk tr, Hle H0 H' ∧ H' x = some (.inst 380 dx) ∧ H' dx = some (stO bk hp sk tr) ∧ H' hp = some (.lst []) ∧ H' sk = some (.lst []) ∧ H' tr = some (.lst []) ∧ hp ≠ sk ∧ hp ≠ tr ∧ H0 hp = none ∧ H0 sk = none ∧ H0 tr = none) := by
  refine Sp.body (fi := F194) (pn := [Str.ofString "self", Str.ofString "symbols", Str.ofString "max_heap"]) (rest := []) (args' := [.ref x, .ref bk, .int 100000]) (fun P => rfl) (fun P => rfl) F194.good rfl rfl ?hb rfl (by decide) ?_
  case hb =>
    intro s ys X hd
    obtain ⟨y1, y2, e⟩ := hd.n2
    subst e
    cases hd with
    | cons h1 h2 =>
      cases h2 with
      | cons h2 h3 =>
        cases h3
        exact ⟨[y1, y2, .int 100000 434], .cons h1 (.cons h2 (.cons (.int _ _) .nil)), binds_K X rfl rfl rfl rfl rfl⟩
  with_unfolding_all show Ex _ _ _ (_ :: _) _ (_ :: _) _
  have hle0 := hle
  have hx0 := hx
  have hdx0 := hdx
  refine Ex.setattr (a := x) (dx := dx) (K1 := fun v H1 => v = .ref bk ∧ H1 = H) cs_380_symbols ?he0 ?_
  case he0 => wtm_at "q_ev"
  rintro v G1a ⟨rfl, rfl⟩
  refine ⟨[], by wtm_at "q_ev", hx0, hdx0, by rfl, by simp, ?_⟩
  have hle1 : Hle H0 (G1a.set dx (.attrs ([] ++ [(Str.ofString "symbols", .ref bk)]))) := hle0.upd hn
  have hx1 : (G1a.set dx (.attrs ([] ++ [(Str.ofString "symbols", .ref bk)]))) x = some (.inst 380 dx) := Hp.set_ne (Hp.ne_of hx0 hdx0 (fun q => by cases q)) hx0
  have hdx1 : (G1a.set dx (.attrs ([] ++ [(Str.ofString "symbols", .ref bk)]))) dx = some (.attrs [(Str.ofString "symbols", .ref bk)]) := Hp.set_eq
  generalize G1a.set dx (.attrs ([] ++ [(Str.ofString "symbols", .ref bk)])) = G1 at hle1 hx1 hdx1 ⊢
  refine Ex.setattr (a := x) (dx := dx) (K1 := fun v H1 => v = .int 100000 ∧ H1 = G1) cs_380_max_heap ?he1 ?_
  case he1 => wtm_at "q_ev"
  rintro v G2a ⟨rfl, rfl⟩
  refine ⟨[(Str.ofString "symbols", .ref bk)], by wtm_at "q_ev", hx1, hdx1, by rfl, by simp, ?_⟩
  have hle2 : Hle H0 (G2a.set dx (.attrs ([(Str.ofString "symbols", .ref bk)] ++ [(Str.ofString "max_heap", .int 100000)]))) := hle1.upd hn
  have hx2 : (G2a.set dx (.attrs ([(Str.ofString "symbols", .ref bk)] ++ [(Str.ofString "max_heap", .int 100000)]))) x = some (.inst 380 dx) := Hp.set_ne (Hp.ne_of hx1 hdx1 (fun q => by cases q)) hx1
  have hdx2 : (G2a.set dx (.attrs ([(Str.ofString "symbols", .ref bk)] ++ [(Str.ofString "max_heap", .int 100000)]))) dx = some (.attrs [(Str.ofString "symbols", .ref bk), (Str.ofString "max_heap", .int 100000)]) := Hp.set_eq
  generalize G2a.set dx (.attrs ([(Str.ofString "symbols", .ref bk)] ++ [(Str.ofString "max_heap", .int 100000)])) = G2 at hle2 hx2 hdx2 ⊢
  refine Ex.setattr (a := x) (dx := dx) cs_380_heap (Ev.list (vs := []) EvL.nil) ?_
  rintro v G3a ⟨hp, rfl, n_hp, rfl⟩
  refine ⟨[(Str.ofString "symbols", .ref bk), (Str.ofString "max_heap", .int 100000)], by wtm_at "q_ev", Hp.set_new n_hp hx2, Hp.set_new n_hp hdx2, by rfl, by simp, ?_⟩
  have hle3 : Hle H0 ((G2.set hp (.lst [])).set dx (.attrs ([(Str.ofString "symbols", .ref bk), (Str.ofString "max_heap", .int 100000)] ++ [(Str.ofString "heap", .ref hp)]))) := (hle2.new n_hp).upd hn
  have hx3 : ((G2.set hp (.lst [])).set dx (.attrs ([(Str.ofString "symbols", .ref bk), (Str.ofString "max_heap", .int 100000)] ++ [(Str.ofString "heap", .ref hp)]))) x = some (.inst 380 dx) := Hp.set_ne (Hp.ne_of hx2 hdx2 (fun q => by cases q)) (Hp.set_new n_hp hx2)
  have p3_hp : ((G2.set hp (.lst [])).set dx (.attrs ([(Str.ofString "symbols", .ref bk), (Str.ofString "max_heap", .int 100000)] ++ [(Str.ofString "heap", .ref hp)]))) hp = some (.lst []) := Hp.set_ne (Hp.ne_none n_hp hdx2) Hp.set_eq
  have z_hp : H0 hp = none := hle2.none n_hp
  have hdx3 : ((G2.set hp (.lst [])).set dx (.attrs ([(Str.ofString "symbols", .ref bk), (Str.ofString "max_heap", .int 100000)] ++ [(Str.ofString "heap", .ref hp)]))) dx = some (.attrs [(Str.ofString "symbols", .ref bk), (Str.ofString "max_heap", .int 100000), (Str.ofString "heap", .ref hp)]) := Hp.set_eq
  generalize (G2.set hp (.lst [])).set dx (.attrs ([(Str.ofString "symbols", .ref bk), (Str.ofString "max_heap", .int 100000)] ++ [(Str.ofString "heap", .ref hp)])) = G3 at hle3 hx3 hdx3 p3_hp ⊢
  clear n_hp
  refine Ex.setattr (a := x) (dx := dx) cs_380_stack (Ev.list (vs := []) EvL.nil) ?_
  rintro v G4a ⟨sk, rfl, n_sk, rfl⟩
  refine ⟨[(Str.ofString "symbols", .ref bk), (Str.ofString "max_heap", .int 100000), (Str.ofString "heap", .ref hp)], by wtm_at "q_ev", Hp.set_new n_sk hx3, Hp.set_new n_sk hdx3, by rfl, by simp, ?_⟩
  have hle4 : Hle H0 ((G3.set sk (.lst [])).set dx (.attrs ([(Str.ofString "symbols", .ref bk), (Str.ofString "max_heap", .int 100000), (Str.ofString "heap", .ref hp)] ++ [(Str.ofString "stack", .ref sk)]))) := (hle3.new n_sk).upd hn
  have hx4 : ((G3.set sk (.lst [])).set dx (.attrs ([(Str.ofString "symbols", .ref bk), (Str.ofString "max_heap", .int 100000), (Str.ofString "heap", .ref hp)] ++ [(Str.ofString "stack", .ref sk)]))) x = some (.inst 380 dx) := Hp.set_ne (Hp.ne_of hx3 hdx3 (fun q => by cases q)) (Hp.set_new n_sk hx3)
  have p4_hp : ((G3.set sk (.lst [])).set dx (.attrs ([(Str.ofString "symbols", .ref bk), (Str.ofString "max_heap", .int 100000), (Str.ofString "heap", .ref hp)] ++ [(Str.ofString "stack", .ref sk)]))) hp = some (.lst []) := Hp.set_ne (Hp.ne_of p3_hp hdx3 (fun q => by cases q)) (Hp.set_new n_sk p3_hp)
  have d_hp_sk : hp ≠ sk := Hp.none_ne n_sk p3_hp
  have p4_sk : ((G3.set sk (.lst [])).set dx (.attrs ([(Str.ofString "symbols", .ref bk), (Str.ofString "max_heap", .int 100000), (Str.ofString "heap", .ref hp)] ++ [(Str.ofString "stack", .ref sk)]))) sk = some (.lst []) := Hp.set_ne (Hp.ne_none n_sk hdx3) Hp.set_eq
  have z_sk : H0 sk = none := hle3.none n_sk
  have hdx4 : ((G3.set sk (.lst [])).set dx (.attrs ([(Str.ofString "symbols", .ref bk), (Str.ofString "max_heap", .int 100000), (Str.ofString "heap", .ref hp)] ++ [(Str.ofString "stack", .ref sk)]))) dx = some (.attrs [(Str.ofString "symbols", .ref bk), (Str.ofString "max_heap", .int 100000), (Str.ofString "heap", .ref hp), (Str.ofString "stack", .ref sk)]) := Hp.set_eq
  generalize (G3.set sk (.lst [])).set dx (.attrs ([(Str.ofString "symbols", .ref bk), (Str.ofString "max_heap", .int 100000), (Str.ofString "heap", .ref hp)] ++ [(Str.ofString "stack", .ref sk)])) = G4 at hle4 hx4 hdx4 p4_hp p4_sk ⊢
  clear n_sk
  refine Ex.setattr (a := x) (dx := dx) cs_380_trail (Ev.list (vs := []) EvL.nil) ?_
  rintro v G5a ⟨tr, rfl, n_tr, rfl⟩
  refine ⟨[(Str.ofString "symbols", .ref bk), (Str.ofString "max_heap", .int 100000), (Str.ofString "heap", .ref hp), (Str.ofString "stack", .ref sk)], by wtm_at "q_ev", Hp.set_new n_tr hx4, Hp.set_new n_tr hdx4, by rfl, by simp, ?_⟩
  have hle5 : Hle H0 ((G4.set tr (.lst [])).set dx (.attrs ([(Str.ofString "symbols", .ref bk), (Str.ofString "max_heap", .int 100000), (Str.ofString "heap", .ref hp), (Str.ofString "stack", .ref sk)] ++ [(Str.ofString "trail", .ref tr)]))) := (hle4.new n_tr).upd hn
  have hx5 : ((G4.set tr (.lst [])).set dx (.attrs ([(Str.ofString "symbols", .ref bk), (Str.ofString "max_heap", .int 100000), (Str.ofString "heap", .ref hp), (Str.ofString "stack", .ref sk)] ++ [(Str.ofString "trail", .ref tr)]))) x = some (.inst 380 dx) := Hp.set_ne (Hp.ne_of hx4 hdx4 (fun q => by cases q)) (Hp.set_new n_tr hx4)
  have p5_hp : ((G4.set tr (.lst [])).set dx (.attrs ([(Str.ofString "symbols", .ref bk), (Str.ofString "max_heap", .int 100000), (Str.ofString "heap", .ref hp), (Str.ofString "stack", .ref sk)] ++ [(Str.ofString "trail", .ref tr)]))) hp = some (.lst []) := Hp.set_ne (Hp.ne_of p4_hp hdx4 (fun q => by cases q)) (Hp.set_new n_tr p4_hp)
  have d_hp_tr : hp ≠ tr := Hp.none_ne n_tr p4_hp
  have p5_sk : ((G4.set tr (.lst [])).set dx (.attrs ([(Str.ofString "symbols", .ref bk), (Str.ofString "max_heap", .int 100000), (Str.ofString "heap", .ref hp), (Str.ofString "stack", .ref sk)] ++ [(Str.ofString "trail", .ref tr)]))) sk = some (.lst []) := Hp.set_ne (Hp.ne_of p4_sk hdx4 (fun q => by cases q)) (Hp.set_new n_tr p4_sk)
  have d_sk_tr : sk ≠ tr := Hp.none_ne n_tr p4_sk
  have p5_tr : ((G4.set tr (.lst [])).set dx (.attrs ([(Str.ofString "symbols", .ref bk), (Str.ofString "max_heap", .int 100000), (Str.ofString "heap", .ref hp), (Str.ofString "stack", .ref sk)] ++ [(Str.ofString "trail", .ref tr)]))) tr = some (.lst []) := Hp.set_ne (Hp.ne_none n_tr hdx4) Hp.set_eq
  have z_tr : H0 tr = none := hle4.none n_tr
  have hdx5 : ((G4.set tr (.lst [])).set dx (.attrs ([(Str.ofString "symbols", .ref bk), (Str.ofString "max_heap", .int 100000), (Str.ofString "heap", .ref hp), (Str.ofString "stack", .ref sk)] ++ [(Str.ofString "trail", .ref tr)]))) dx = some (.attrs [(Str.ofString "symbols", .ref bk), (Str.ofString "max_heap", .int 100000), (Str.ofString "heap", .ref hp), (Str.ofString "stack", .ref sk), (Str.ofString "trail", .ref tr)]) := Hp.set_eq
  generalize (G4.set tr (.lst [])).set dx (.attrs ([(Str.ofString "symbols", .ref bk), (Str.ofString "max_heap", .int 100000), (Str.ofString "heap", .ref hp), (Str.ofString "stack", .ref sk)] ++ [(Str.ofString "trail", .ref tr)])) = G5 at hle5 hx5 hdx5 p5_hp p5_sk p5_tr ⊢
  clear n_tr
  refine Ex.setattr (a := x) (dx := dx) (K1 := fun v H1 => v = .int 0 ∧ H1 = G5) cs_380_hb ?he5 ?_
  case he5 => wtm_at "q_ev"
  rintro v G6a ⟨rfl, rfl⟩
  refine ⟨[(Str.ofString "symbols", .ref bk), (Str.ofString "max_heap", .int 100000), (Str.ofString "heap", .ref hp), (Str.ofString "stack", .ref sk), (Str.ofString "trail", .ref tr)], by wtm_at "q_ev", hx5, hdx5, by rfl, by simp, ?_⟩
  have hle6 : Hle H0 (G6a.set dx (.attrs ([(Str.ofString "symbols", .ref bk), (Str.ofString "max_heap", .int 100000), (Str.ofString "heap", .ref hp), (Str.ofString "stack", .ref sk), (Str.ofString "trail", .ref tr)] ++ [(Str.ofString "hb", .int 0)]))) := hle5.upd hn
  have hx6 : (G6a.set dx (.attrs ([(Str.ofString "symbols", .ref bk), (Str.ofString "max_heap", .int 100000), (Str.ofString "heap", .ref hp), (Str.ofString "stack", .ref sk), (Str.ofString "trail", .ref tr)] ++ [(Str.ofString "hb", .int 0)]))) x = some (.inst 380 dx) := Hp.set_ne (Hp.ne_of hx5 hdx5 (fun q => by cases q)) hx5
  have p6_hp : (G6a.set dx (.attrs ([(Str.ofString "symbols", .ref bk), (Str.ofString "max_heap", .int 100000), (Str.ofString "heap", .ref hp), (Str.ofString "stack", .ref sk), (Str.ofString "trail", .ref tr)] ++ [(Str.ofString "hb", .int 0)]))) hp = some (.lst []) := Hp.set_ne (Hp.ne_of p5_hp hdx5 (fun q => by cases q)) p5_hp
  have p6_sk : (G6a.set dx (.attrs ([(Str.ofString "symbols", .ref bk), (Str.ofString "max_heap", .int 100000), (Str.ofString "heap", .ref hp), (Str.ofString "stack", .ref sk), (Str.ofString "trail", .ref tr)] ++ [(Str.ofString "hb", .int 0)]))) sk = some (.lst []) := Hp.set_ne (Hp.ne_of p5_sk hdx5 (fun q => by cases q)) p5_sk
  have p6_tr : (G6a.set dx (.attrs ([(Str.ofString "symbols", .ref bk), (Str.ofString "max_heap", .int 100000), (Str.ofString "heap", .ref hp), (Str.ofString "stack", .ref sk), (Str.ofString "trail", .ref tr)] ++ [(Str.ofString "hb", .int 0)]))) tr = some (.lst []) := Hp.set_ne (Hp.ne_of p5_tr hdx5 (fun q => by cases q)) p5_tr
  have hdx6 : (G6a.set dx (.attrs ([(Str.ofString "symbols", .ref bk), (Str.ofString "max_heap", .int 100000), (Str.ofString "heap", .ref hp), (Str.ofString "stack", .ref sk), (Str.ofString "trail", .ref tr)] ++ [(Str.ofString "hb", .int 0)]))) dx = some (.attrs [(Str.ofString "symbols", .ref bk), (Str.ofString "max_heap", .int 100000), (Str.ofString "heap", .ref hp), (Str.ofString "stack", .ref sk), (Str.ofString "trail", .ref tr), (Str.ofString "hb", .int 0)]) := Hp.set_eq
  generalize G6a.set dx (.attrs ([(Str.ofString "symbols", .ref bk), (Str.ofString "max_heap", .int 100000), (Str.ofString "heap", .ref hp), (Str.ofString "stack", .ref sk), (Str.ofString "trail", .ref tr)] ++ [(Str.ofString "hb", .int 0)])) = G6 at hle6 hx6 hdx6 p6_hp p6_sk p6_tr ⊢
  refine Ex.setattr (a := x) (dx := dx) (K1 := fun v H1 => v = .int 0 ∧ H1 = G6) cs_380_bb ?he6 ?_
  case he6 => wtm_at "q_ev"
  rintro v G7a ⟨rfl, rfl⟩
  refine ⟨[(Str.ofString "symbols", .ref bk), (Str.ofString "max_heap", .int 100000), (Str.ofString "heap", .ref hp), (Str.ofString "stack", .ref sk), (Str.ofString "trail", .ref tr), (Str.ofString "hb", .int 0)], by wtm_at "q_ev", hx6, hdx6, by rfl, by simp, ?_⟩
  have hle7 : Hle H0 (G7a.set dx (.attrs ([(Str.ofString "symbols", .ref bk), (Str.ofString "max_heap", .int 100000), (Str.ofString "heap", .ref hp), (Str.ofString "stack", .ref sk), (Str.ofString "trail", .ref tr), (Str.ofString "hb", .int 0)] ++ [(Str.ofString "bb", .int 0)]))) := hle6.upd hn
  have hx7 : (G7a.set dx (.attrs ([(Str.ofString "symbols", .ref bk), (Str.ofString "max_heap", .int 100000), (Str.ofString "heap", .ref hp), (Str.ofString "stack", .ref sk), (Str.ofString "trail", .ref tr), (Str.ofString "hb", .int 0)] ++ [(Str.ofString "bb", .int 0)]))) x = some (.inst 380 dx) := Hp.set_ne (Hp.ne_of hx6 hdx6 (fun q => by cases q)) hx6
  have p7_hp : (G7a.set dx (.attrs ([(Str.ofString "symbols", .ref bk), (Str.ofString "max_heap", .int 100000), (Str.ofString "heap", .ref hp), (Str.ofString "stack", .ref sk), (Str.ofString "trail", .ref tr), (Str.ofString "hb", .int 0)] ++ [(Str.ofString "bb", .int 0)]))) hp = some (.lst []) := Hp.set_ne (Hp.ne_of p6_hp hdx6 (fun q => by cases q)) p6_hp
  have p7_sk : (G7a.set dx (.attrs ([(Str.ofString "symbols", .ref bk), (Str.ofString "max_heap", .int 100000), (Str.ofString "heap", .ref hp), (Str.ofString "stack", .ref sk), (Str.ofString "trail", .ref tr), (Str.ofString "hb", .int 0)] ++ [(Str.ofString "bb", .int 0)]))) sk = some (.lst []) := Hp.set_ne (Hp.ne_of p6_sk hdx6 (fun q => by cases q)) p6_sk
  have p7_tr : (G7a.set dx (.attrs ([(Str.ofString "symbols", .ref bk), (Str.ofString "max_heap", .int 100000), (Str.ofString "heap", .ref hp), (Str.ofString "stack", .ref sk), (Str.ofString "trail", .ref tr), (Str.ofString "hb", .int 0)] ++ [(Str.ofString "bb", .int 0)]))) tr = some (.lst []) := Hp.set_ne (Hp.ne_of p6_tr hdx6 (fun q => by cases q)) p6_tr
  have hdx7 : (G7a.set dx (.attrs ([(Str.ofString "symbols", .ref bk), (Str.ofString "max_heap", .int 100000), (Str.ofString "heap", .ref hp), (Str.ofString "stack", .ref sk), (Str.ofString "trail", .ref tr), (Str.ofString "hb", .int 0)] ++ [(Str.ofString "bb", .int 0)]))) dx = some (.attrs [(Str.ofString "symbols", .ref bk), (Str.ofString "max_heap", .int 100000), (Str.ofString "heap", .ref hp), (Str.ofString "stack", .ref sk), (Str.ofString "trail", .ref tr), (Str.ofString "hb", .int 0), (Str.ofString "bb", .int 0)]) := Hp.set_eq
  generalize G7a.set dx (.attrs ([(Str.ofString "symbols", .ref bk), (Str.ofString "max_heap", .int 100000), (Str.ofString "heap", .ref hp), (Str.ofString "stack", .ref sk), (Str.ofString "trail", .ref tr), (Str.ofString "hb", .int 0)] ++ [(Str.ofString "bb", .int 0)])) = G7 at hle7 hx7 hdx7 p7_hp p7_sk p7_tr ⊢
  exact Ex.nil ⟨rfl, hp, sk, tr, hle7, hx7, hdx7, p7_hp, p7_sk, p7_tr, d_hp_sk, d_hp_tr, z_hp, z_sk, z_tr⟩
theorem syinit {w : World} {H0 H : Hp} {x dx : Addr} (hle : Hle H0 H) (hx : H x = some (.inst 154 dx)) (hdx : H dx = some (.attrs [])) (hn : H0 dx = none) :
  Sp w 50 81 [.ref x] H (fun v H' => v = .none ∧ ∃ tx an fn nn T F, Hle H0 H' ∧ H' x = some (.inst 154 dx) ∧ H' dx = some (bkO tx an fn nn) ∧ BookI H' tx an fn nn T F ∧ T.length ≤ 100 ∧ F.length ≤ 100 ∧ (∃ k a, F[0]? = some (k, a, 2)) ∧ H0 tx = none ∧ H0 an = none ∧ H0 fn = none ∧ H0 nn = none) := by
  refine Sp.fn (fi := F81) [Str.ofString "self"] [Str.ofString "text", Str.ofString "row"] (fun P => rfl) (fun P => rfl) F81.good rfl rfl ?hb rfl (by decide) ?_
  case hb => wtm_at "q_bind"
  with_unfolding_all show Ex _ _ _ (_ :: _) _ (_ :: _) _
  have hle0 := hle
  have hx0 := hx
  have hdx0 := hdx
  refine Ex.setattr (a := x) (dx := dx) cs_154_texts (Ev.list (vs := []) EvL.nil) ?_
  rintro v G1a ⟨tx, rfl, n_tx, rfl⟩
  refine ⟨[], by wtm_at "q_ev", Hp.set_new n_tx hx0, Hp.set_new n_tx hdx0, by rfl, by simp, ?_⟩
  have hle1 : Hle H0 ((H.set tx (.lst [])).set dx (.attrs ([] ++ [(Str.ofString "texts", .ref tx)]))) := (hle0.new n_tx).upd hn
  have hx1 : ((H.set tx (.lst [])).set dx (.attrs ([] ++ [(Str.ofString "texts", .ref tx)]))) x = some (.inst 154 dx) := Hp.set_ne (Hp.ne_of hx0 hdx0 (fun q => by cases q)) (Hp.set_new n_tx hx0)
  have p1_tx : ((H.set tx (.lst [])).set dx (.attrs ([] ++ [(Str.ofString "texts", .ref tx)]))) tx = some (.lst []) := Hp.set_ne (Hp.ne_none n_tx hdx0) Hp.set_eq
  have z_tx : H0 tx = none := hle0.none n_tx
  have hdx1 : ((H.set tx (.lst [])).set dx (.attrs ([] ++ [(Str.ofString "texts", .ref tx)]))) dx = some (.attrs [(Str.ofString "texts", .ref tx)]) := Hp.set_eq
  generalize (H.set tx (.lst [])).set dx (.attrs ([] ++ [(Str.ofString "texts", .ref tx)])) = G1 at hle1 hx1 hdx1 p1_tx ⊢
  clear n_tx
  refine Ex.setattr (a := x) (dx := dx) cs_154_atom_numbers (Ev.newdictS) ?_
  rintro v G2a ⟨an, rfl, n_an, lo_an, rfl⟩
  refine ⟨[(Str.ofString "texts", .ref tx)], by wtm_at "q_ev", Hp.set_new n_an hx1, Hp.set_new n_an hdx1, by rfl, by simp, ?_⟩
  have hle2 : Hle H0 ((G1.set an (.stab [])).set dx (.attrs ([(Str.ofString "texts", .ref tx)] ++ [(Str.ofString "atom_numbers", .ref an)]))) := (hle1.new n_an).upd hn
  have hx2 : ((G1.set an (.stab [])).set dx (.attrs ([(Str.ofString "texts", .ref tx)] ++ [(Str.ofString "atom_numbers", .ref an)]))) x = some (.inst 154 dx) := Hp.set_ne (Hp.ne_of hx1 hdx1 (fun q => by cases q)) (Hp.set_new n_an hx1)
  have p2_tx : ((G1.set an (.stab [])).set dx (.attrs ([(Str.ofString "texts", .ref tx)] ++ [(Str.ofString "atom_numbers", .ref an)]))) tx = some (.lst []) := Hp.set_ne (Hp.ne_of p1_tx hdx1 (fun q => by cases q)) (Hp.set_new n_an p1_tx)
  have d_tx_an : tx ≠ an := Hp.none_ne n_an p1_tx
  have p2_an : ((G1.set an (.stab [])).set dx (.attrs ([(Str.ofString "texts", .ref tx)] ++ [(Str.ofString "atom_numbers", .ref an)]))) an = some (.stab []) := Hp.set_ne (Hp.ne_none n_an hdx1) Hp.set_eq
  have z_an : H0 an = none := hle1.none n_an
  have hdx2 : ((G1.set an (.stab [])).set dx (.attrs ([(Str.ofString "texts", .ref tx)] ++ [(Str.ofString "atom_numbers", .ref an)]))) dx = some (.attrs [(Str.ofString "texts", .ref tx), (Str.ofString "atom_numbers", .ref an)]) := Hp.set_eq
  generalize (G1.set an (.stab [])).set dx (.attrs ([(Str.ofString "texts", .ref tx)] ++ [(Str.ofString "atom_numbers", .ref an)])) = G2 at hle2 hx2 hdx2 p2_tx p2_an ⊢
  clear n_an
  refine Ex.setattr (a := x) (dx := dx) cs_154_functors (Ev.list (vs := []) EvL.nil) ?_
  rintro v G3a ⟨fn, rfl, n_fn, rfl⟩
  refine ⟨[(Str.ofString "texts", .ref tx), (Str.ofString "atom_numbers", .ref an)], by wtm_at "q_ev", Hp.set_new n_fn hx2, Hp.set_new n_fn hdx2, by rfl, by simp, ?_⟩
  have hle3 : Hle H0 ((G2.set fn (.lst [])).set dx (.attrs ([(Str.ofString "texts", .ref tx), (Str.ofString "atom_numbers", .ref an)] ++ [(Str.ofString "functors", .ref fn)]))) := (hle2.new n_fn).upd hn
  have hx3 : ((G2.set fn (.lst [])).set dx (.attrs ([(Str.ofString "texts", .ref tx), (Str.ofString "atom_numbers", .ref an)] ++ [(Str.ofString "functors", .ref fn)]))) x = some (.inst 154 dx) := Hp.set_ne (Hp.ne_of hx2 hdx2 (fun q => by cases q)) (Hp.set_new n_fn hx2)
  have p3_tx : ((G2.set fn (.lst [])).set dx (.attrs ([(Str.ofString "texts", .ref tx), (Str.ofString "atom_numbers", .ref an)] ++ [(Str.ofString "functors", .ref fn)]))) tx = some (.lst []) := Hp.set_ne (Hp.ne_of p2_tx hdx2 (fun q => by cases q)) (Hp.set_new n_fn p2_tx)
  have d_tx_fn : tx ≠ fn := Hp.none_ne n_fn p2_tx
  have p3_an : ((G2.set fn (.lst [])).set dx (.attrs ([(Str.ofString "texts", .ref tx), (Str.ofString "atom_numbers", .ref an)] ++ [(Str.ofString "functors", .ref fn)]))) an = some (.stab []) := Hp.set_ne (Hp.ne_of p2_an hdx2 (fun q => by cases q)) (Hp.set_new n_fn p2_an)
  have d_an_fn : an ≠ fn := Hp.none_ne n_fn p2_an
  have p3_fn : ((G2.set fn (.lst [])).set dx (.attrs ([(Str.ofString "texts", .ref tx), (Str.ofString "atom_numbers", .ref an)] ++ [(Str.ofString "functors", .ref fn)]))) fn = some (.lst []) := Hp.set_ne (Hp.ne_none n_fn hdx2) Hp.set_eq
  have z_fn : H0 fn = none := hle2.none n_fn
  have hdx3 : ((G2.set fn (.lst [])).set dx (.attrs ([(Str.ofString "texts", .ref tx), (Str.ofString "atom_numbers", .ref an)] ++ [(Str.ofString "functors", .ref fn)]))) dx = some (.attrs [(Str.ofString "texts", .ref tx), (Str.ofString "atom_numbers", .ref an), (Str.ofString "functors", .ref fn)]) := Hp.set_eq
  generalize (G2.set fn (.lst [])).set dx (.attrs ([(Str.ofString "texts", .ref tx), (Str.ofString "atom_numbers", .ref an)] ++ [(Str.ofString "functors", .ref fn)])) = G3 at hle3 hx3 hdx3 p3_tx p3_an p3_fn ⊢
  clear n_fn
  refine Ex.setattr (a := x) (dx := dx) cs_154_functor_numbers (Ev.newdictT) ?_
  rintro v G4a ⟨nn, rfl, n_nn, lo_nn, rfl⟩
  refine ⟨[(Str.ofString "texts", .ref tx), (Str.ofString "atom_numbers", .ref an), (Str.ofString "functors", .ref fn)], by wtm_at "q_ev", Hp.set_new n_nn hx3, Hp.set_new n_nn hdx3, by rfl, by simp, ?_⟩
  have hle4 : Hle H0 ((G3.set nn (.ttab [])).set dx (.attrs ([(Str.ofString "texts", .ref tx), (Str.ofString "atom_numbers", .ref an), (Str.ofString "functors", .ref fn)] ++ [(Str.ofString "functor_numbers", .ref nn)]))) := (hle3.new n_nn).upd hn
  have hx4 : ((G3.set nn (.ttab [])).set dx (.attrs ([(Str.ofString "texts", .ref tx), (Str.ofString "atom_numbers", .ref an), (Str.ofString "functors", .ref fn)] ++ [(Str.ofString "functor_numbers", .ref nn)]))) x = some (.inst 154 dx) := Hp.set_ne (Hp.ne_of hx3 hdx3 (fun q => by cases q)) (Hp.set_new n_nn hx3)
  have p4_tx : ((G3.set nn (.ttab [])).set dx (.attrs ([(Str.ofString "texts", .ref tx), (Str.ofString "atom_numbers", .ref an), (Str.ofString "functors", .ref fn)] ++ [(Str.ofString "functor_numbers", .ref nn)]))) tx = some (.lst []) := Hp.set_ne (Hp.ne_of p3_tx hdx3 (fun q => by cases q)) (Hp.set_new n_nn p3_tx)
  have d_tx_nn : tx ≠ nn := Hp.none_ne n_nn p3_tx
  have p4_an : ((G3.set nn (.ttab [])).set dx (.attrs ([(Str.ofString "texts", .ref tx), (Str.ofString "atom_numbers", .ref an), (Str.ofString "functors", .ref fn)] ++ [(Str.ofString "functor_numbers", .ref nn)]))) an = some (.stab []) := Hp.set_ne (Hp.ne_of p3_an hdx3 (fun q => by cases q)) (Hp.set_new n_nn p3_an)
  have d_an_nn : an ≠ nn := Hp.none_ne n_nn p3_an
  have p4_fn : ((G3.set nn (.ttab [])).set dx (.attrs ([(Str.ofString "texts", .ref tx), (Str.ofString "atom_numbers", .ref an), (Str.ofString "functors", .ref fn)] ++ [(Str.ofString "functor_numbers", .ref nn)]))) fn = some (.lst []) := Hp.set_ne (Hp.ne_of p3_fn hdx3 (fun q => by cases q)) (Hp.set_new n_nn p3_fn)
  have d_fn_nn : fn ≠ nn := Hp.none_ne n_nn p3_fn
  have p4_nn : ((G3.set nn (.ttab [])).set dx (.attrs ([(Str.ofString "texts", .ref tx), (Str.ofString "atom_numbers", .ref an), (Str.ofString "functors", .ref fn)] ++ [(Str.ofString "functor_numbers", .ref nn)]))) nn = some (.ttab []) := Hp.set_ne (Hp.ne_none n_nn hdx3) Hp.set_eq
  have z_nn : H0 nn = none := hle3.none n_nn
  have hdx4 : ((G3.set nn (.ttab [])).set dx (.attrs ([(Str.ofString "texts", .ref tx), (Str.ofString "atom_numbers", .ref an), (Str.ofString "functors", .ref fn)] ++ [(Str.ofString "functor_numbers", .ref nn)]))) dx = some (.attrs [(Str.ofString "texts", .ref tx), (Str.ofString "atom_numbers", .ref an), (Str.ofString "functors", .ref fn), (Str.ofString "functor_numbers", .ref nn)]) := Hp.set_eq
  generalize (G3.set nn (.ttab [])).set dx (.attrs ([(Str.ofString "texts", .ref tx), (Str.ofString "atom_numbers", .ref an), (Str.ofString "functors", .ref fn)] ++ [(Str.ofString "functor_numbers", .ref nn)])) = G4 at hle4 hx4 hdx4 p4_tx p4_an p4_fn p4_nn ⊢
  clear n_nn
  have b4 : BookI G4 tx an fn nn [] [] := ⟨p4_tx, p4_an, p4_fn, p4_nn, (fun p hp => by cases hp), d_tx_fn, lo_an, lo_nn, List.nodup_nil, List.nodup_nil⟩
  have zz : ∀ a ∈ [tx, an, fn, nn], H0 a = none := by
    intro a ha
    simp only [List.mem_cons, List.not_mem_nil, or_false] at ha
    rcases ha with rfl | rfl | rfl | rfl <;> assumption
  clear hle0 hx0 hdx0 hle1 hx1 hdx1 p1_tx hle2 hx2 hdx2 p2_tx p2_an hle3 hx3 hdx3 p3_tx p3_an p3_fn p4_tx p4_an p4_fn p4_nn hle hx hdx
  refine Ex.forSeq (Ev.call0 (d' := 60) (g_fixed_atoms rfl) fn_60 fixed_atoms_is (by decide)) ?_
  rintro v H1 ⟨a, vs, rfl, ha, rfl, hlen⟩
  refine ⟨a, _, vs.map SV.str, fun us N' H' => ∃ T u r, N' = [.ref x, u, .unb] ∧ us = List.map SV.str r ∧ Hle H0 H' ∧ H' x = some (.inst 154 dx) ∧ H' dx = some (bkO tx an fn nn) ∧ BookI H' tx an fn nn T [] ∧ T.length + r.length ≤ 29, rfl, Hp.set_eq, .inl rfl, ?start, ?turn, ?exit⟩
  case start =>
    have l := Hle.put_del (o := .tup (vs.map SV.str)) ha
    exact ⟨[], _, vs, rfl, rfl, hle4.trans l, l _ _ hx4, l _ _ hdx4, b4.le l, by simp [hlen]⟩
  case turn =>
    rintro u r N' H' ⟨T, u0, r0, rfl, hr, hl, hx, hdx, b, hz⟩
    cases r0 with
    | nil => cases hr
    | cons y r0 =>
      cases hr
      refine ⟨_, Asg.name (by wtm_at "q_vat"), ?_⟩
      refine' Ex.expr (Ev.meth (d' := 60) ?o hx hdx rfl cm_154_atom ?a (atom_is hx hdx b (by simp at hz; omega)) (by decide)) ?_
      case o => wtm_at "q_ev"
      case a => wtm_at "q_ev"
      rintro v H2 ⟨T', q, rfl, h1, h2, h3, h4, h5, _⟩
      have c1 : x ∉ [tx, an] := by simp; exact ⟨Hp.ne_of hx b.ptx (fun q => by cases q), Hp.ne_of hx b.pan (fun q => by cases q)⟩
      have c2 : dx ∉ [tx, an] := by simp; exact ⟨Hp.ne_of hdx b.ptx (fun q => by cases q), Hp.ne_of hdx b.pan (fun q => by cases q)⟩
      exact Ex.nil ⟨T', _, r0, rfl, rfl, h5.le hl (fun a ha => zz a (by simp at ha ⊢; rcases ha with h | h <;> simp [h])), h5 _ _ c1 hx, h5 _ _ c2 hdx, h4, by simp at hz; omega⟩
  case exit =>
    rintro N' H5 ⟨T, u0, r0, rfl, hr, hl5, hx5, hdx5, b5, hz5⟩
    refine ⟨H5, .inl rfl, ?_⟩
    clear ha hle4 hx4 hdx4 b4
    refine Ex.forSeq (Ev.call0 (d' := 60) (g_fixed_functors rfl) fn_67 fixed_functors_is (by decide)) ?_
    rintro v H6 ⟨a6, vs6, xs6, x06, rfl, ha6, hl6, hv6, hr6, hn6⟩
    have hlen6 := hr6.length
    refine ⟨a6, _, vs6, fun us N' H' => ∃ T F u0 u rows, N' = [.ref x, u0, u] ∧ RowsAt H' us rows ∧ Hle H0 H' ∧ H' x = some (.inst 154 dx) ∧ H' dx = some (bkO tx an fn nn) ∧ BookI H' tx an fn nn T F ∧ T.length + us.length ≤ 61 ∧ F.length + us.length ≤ 32 ∧ ((F = [] ∧ ∃ x0 xs, rows = (x0, 2) :: xs) ∨ ∃ k a, F[0]? = some (k, a, 2)), rfl, hv6, .inl rfl, ?start2, ?turn2, ?exit2⟩
    case start2 =>
      have l : Hle H5 (H6.del a6) := hl6.to_del ha6
      exact ⟨T, [], _, _, _, rfl, hr6.del hv6 (by rw [hlen6]; simp [hn6]), hl5.trans l, l _ _ hx5, l _ _ hdx5, b5.le l, by rw [hlen6]; simp [hn6]; omega, by rw [hlen6]; simp [hn6], .inl ⟨rfl, _, _, rfl⟩⟩
    case turn2 =>
      rintro u r N' H' ⟨T, F, u0, u1, rows, rfl, hr, hl, hx, hdx, b, hz1, hz2, hF0⟩
      cases hr with
      | cons ht hr =>
        rename_i t y n rows
        refine ⟨_, Asg.name (by wtm_at "q_vat"), ?_⟩
        refine' Ex.expr (Ev.meth (d' := 55) ?o hx hdx rfl cm_154_func ?a (func_is (x := y) (n := n) hx hdx b (by simp at hz1; omega) (by simp at hz2; omega)) (by decide)) ?_
        case o => wtm_at "q_ev"
        case a => wtm_at "q_ev"
        rintro v H2 ⟨T', F', q, k, a, rfl, h1, _, h2, h3, h4, h5, h6, h7, _⟩
        have c1 : x ∉ [tx, an, fn, nn] := by simp; exact ⟨Hp.ne_of hx b.ptx (fun q => by cases q), Hp.ne_of hx b.pan (fun q => by cases q), Hp.ne_of hx b.pfn (fun q => by cases q), Hp.ne_of hx b.pnn (fun q => by cases q)⟩
        have c2 : dx ∉ [tx, an, fn, nn] := by simp; exact ⟨Hp.ne_of hdx b.ptx (fun q => by cases q), Hp.ne_of hdx b.pan (fun q => by cases q), Hp.ne_of hdx b.pfn (fun q => by cases q), Hp.ne_of hdx b.pnn (fun q => by cases q)⟩
        refine Ex.nil ⟨T', F', _, _, rows, rfl, hr.off h7 b, h7.le hl zz, h7 _ _ c1 hx, h7 _ _ c2 hdx, h6, by simp at hz1; omega, by simp at hz2; omega, .inr ?_⟩
        rcases hF0 with ⟨rfl, x0, xs, e⟩ | ⟨k0, a0, e⟩
        · cases e
          simp only [List.length_nil] at h3
          have hq := (List.getElem?_eq_some_iff.mp h1).1
          have : q = 0 := by omega
          subst this
          exact ⟨_, _, h1⟩
        · obtain ⟨s, rfl⟩ := h2
          exact ⟨k0, a0, by rw [List.getElem?_append_left (List.getElem?_eq_some_iff.mp e).1]; exact e⟩
    case exit2 =>
      rintro N' H7 ⟨T, F, u0, u1, rows, rfl, hr, hl, hx, hdx, b, hz1, hz2, hF0⟩
      refine ⟨H7, .inl rfl, ?_⟩
      cases hr
      refine Ex.nil ⟨rfl, tx, an, fn, nn, T, F, hl, hx, hdx, b, by simp at hz1; omega, by simp at hz2; omega, ?_, z_tx, z_an, z_fn, z_nn⟩
      rcases hF0 with ⟨_, _, _, e⟩ | h
      · cases e
      · exact h
end
section
-- T8
theorem Base.off {H H' : Hp} {st sx hp sk tr bk bx tx an fn nn a : Addr} {vs : List SV} (b : Base H st sx hp sk tr bk bx tx an fn nn) (o : Off [a] H H') (ha : H a = some (.lst vs)) : Base H' st sx hp sk tr bk bx tx an fn nn :=
  ⟨o _ _ (by simp; exact Hp.ne_of b.st ha (fun q => by cases q)) b.st, o _ _ (by simp; exact Hp.ne_of b.sx ha (fun q => by cases q)) b.sx, o _ _ (by simp; exact Hp.ne_of b.bk ha (fun q => by cases q)) b.bk, o _ _ (by simp; exact Hp.ne_of b.bx ha (fun q => by cases q)) b.bx⟩
theorem push_is {w : World} {H : Hp} {st sx hp sk tr bk bx tx an fn nn : Addr} (B : Base H st sx hp sk tr bk bx tx an fn nn) {hs : List SV} (hhp : H hp = some (.lst hs)) (hz : hs.length ≤ 50000) {c : Addr} : Sp w 60 201 [.ref st, .ref c] H (fun r H' => r = .int (hs.length : Int) ∧ H' = H.set hp (.lst (hs ++ [.ref c]))) := by
  refine Sp.fn (fi := F201) [Str.ofString "self", Str.ofString "cell"] [Str.ofString "address"] (fun P => rfl) (fun P => rfl) F201.good rfl rfl ?hb rfl (by decide) ?_
  case hb => wtm_at "q_bind"
  with_unfolding_all show Ex _ _ _ (_ :: _) _ (_ :: _) _
  wtm_at "q_st"
  wtm_at "q_st"
  wtm_at "q_st"
  refine' Ex.expr (Ev.append (K1 := fun v H3 => v = .ref c ∧ H3 = H) (K := fun v H3 => v = .none ∧ H3 = H.set hp (.lst (hs ++ [.ref c]))) ?o hhp ?e ?k) ?_
  case o => wtm_at "q_ev"
  case e => wtm_at "q_ev"
  case k => rintro v H3 ⟨rfl, rfl⟩; exact ⟨_, hhp, by omega, rfl, rfl⟩
  rintro v H3 ⟨rfl, rfl⟩
  refine Ex.ret (v := .int (hs.length : Int)) ?_ ⟨rfl, rfl⟩
  wtm_at "q_ev"
theorem new_var_is {w : World} {H : Hp} {st sx hp sk tr bk bx tx an fn nn : Addr} (B : Base H st sx hp sk tr bk bx tx an fn nn) {hs : List SV} (hhp : H hp = some (.lst hs)) (hz : hs.length ≤ 50000) : Sp w 55 208 [.ref st] H (fun r H' => ∃ c, r = .ref c ∧ H c = none ∧ H' = (H.set c (cellO 0 (hs.length : Int))).set hp (.lst (hs ++ [.ref c]))) := by
  refine Sp.fn (fi := F208) [Str.ofString "self"] [Str.ofString "cell"] (fun P => rfl) (fun P => rfl) F208.good rfl rfl ?hb rfl (by decide) ?_
  case hb => wtm_at "q_bind"
  with_unfolding_all show Ex _ _ _ (_ :: _) _ (_ :: _) _
  refine' Ex.assignK (i := 1) (Ev.tup (vs := [.int 0, .int (hs.length : Int)]) ?t (by simp)) (by wtm_at "q_vat") ?_
  case t => wtm_at "q_ev"
  rintro v H1 ⟨c, rfl, hc, rfl⟩
  have B1 := B.fresh (o := cellO 0 (hs.length : Int)) hc
  have hhp1 := Hp.set_new (o := cellO 0 (hs.length : Int)) hc hhp
  refine' Ex.expr (Ev.meth (d' := 60) ?o B1.st B1.sx rfl cm_380_push ?a (push_is B1 hhp1 hz) (by decide)) ?_
  case o => wtm_at "q_ev"
  case a => wtm_at "q_ev"
  rintro v H2 ⟨rfl, rfl⟩
  refine Ex.ret (v := .ref c) ?_ ⟨c, rfl, hc, rfl⟩
  wtm_at "q_ev"
theorem globalise_is {w : World} {H : Hp} {st sx hp sk tr bk bx tx an fn nn : Addr} (B : Base H st sx hp sk tr bk bx tx an fn nn) {c e : Addr} {t k : Int} (hd : SpP w 60 229 [.ref st, .ref c] H (.ref e)) (he : H e = some (cellO t k)) (ht : ¬ t = 1) : SpP w 58 257 [.ref st, .ref c] H (.ref e) := by
  refine Sp.fn (fi := F257) [Str.ofString "self", Str.ofString "cell"] [Str.ofString "fresh"] (fun P => rfl) (fun P => rfl) F257.good rfl rfl ?hb rfl (by decide) ?_
  case hb => wtm_at "q_bind"
  with_unfolding_all show Ex _ _ _ (_ :: _) _ (_ :: _) _
  wtm_at "q_st"
  wtm_at "q_st"
  wtm_at "q_st"
  wtm_at "q_st"
  exact ⟨rfl, rfl⟩
theorem reserve2_is {w : World} {H : Hp} {st sx hp sk tr bk bx tx an fn nn : Addr} (B : Base H st sx hp sk tr bk bx tx an fn nn) {hs : List SV} (hhp : H hp = some (.lst hs)) (hz : hs.length ≤ 50000) : Sp w 58 215 [.ref st, .int 2] H (fun r H' => ∃ vs, r = .int (hs.length : Int) ∧ vs.length = 2 ∧ H' hp = some (.lst (hs ++ vs)) ∧ Off [hp] H H') := by
  refine Sp.fn (fi := F215) [Str.ofString "self", Str.ofString "count"] [Str.ofString "first", Str.ofString "step"] (fun P => rfl) (fun P => rfl) F215.good rfl rfl ?hb rfl (by decide) ?_
  case hb => wtm_at "q_bind"
  with_unfolding_all show Ex _ _ _ (_ :: _) _ (_ :: _) _
  wtm_at "q_st"
  wtm_at "q_st"
  wtm_at "q_st"
  refine' Ex.forRange (n := 2) (a := 0) (b := 2) (k := 1) (K := kret _) (fun i N' H' => ∃ u vs, N' = [.ref st, .int 2, .int (hs.length : Int), u] ∧ vs.length = i ∧ H' hp = some (.lst (hs ++ vs)) ∧ Off [hp] H H') (RangeE.one rfl ?e) rfl rfl ?hx ⟨_, [], rfl, rfl, by rw [List.append_nil]; exact hhp, Off.rfl⟩ ?turn ?exit
  case e => wtm_at "q_ev"
  case hx => wtm_at "q_vat"
  case exit =>
    rintro N' H' ⟨u, vs, rfl, h1, h2, h3⟩
    refine Ex.ret (v := .int (hs.length : Int)) ?_ ⟨vs, rfl, h1, h2, h3⟩
    wtm_at "q_ev"
  case turn =>
    rintro i N' H' hi ⟨u, vs, rfl, h1, h2, h3⟩
    have B' := B.off h3 hhp
    refine Ex.expr (Ev.append (K := fun v H3 => ∃ t, v = .none ∧ H' t = none ∧ H3 = (H'.set t (.tup [.int 0, .int ((hs.length : Int) + (0 + (i : Int) * 1))])).set hp (.lst ((hs ++ vs) ++ [.ref t]))) ?o h2 (Ev.tup (vs := [.int 0, .int ((hs.length : Int) + (0 + (i : Int) * 1))]) ?t (by simp)) ?k) ?_
    case o => wtm_at "q_ev"
    case t => wtm_at "q_ev"
    case k =>
      rintro v H1 ⟨t, rfl, ht, rfl⟩
      exact ⟨hs ++ vs, Hp.set_new ht h2, by simp; omega, t, rfl, ht, rfl⟩
    rintro v H3 ⟨t, rfl, ht, rfl⟩
    exact Ex.nil ⟨_, vs ++ [.ref t], rfl, by simp [h1], by rw [← List.append_assoc]; exact Hp.set_eq, (h3.new ht).set (by simp)⟩
theorem block_dot {w : World} {H : Hp} {st sx hp sk tr bk bx tx an fn nn : Addr} (B : Base H st sx hp sk tr bk bx tx an fn nn) {hs : List SV} (hhp : H hp = some (.lst hs)) (hz : hs.length ≤ 50000) : Sp w 56 320 [.ref st, .int 0] H (fun r H' => ∃ m vs, r = .ref m ∧ H' m = some (cellO 3 (hs.length : Int)) ∧ vs.length = 2 ∧ H' hp = some (.lst (hs ++ vs)) ∧ Off [hp] H H') := by
  refine Sp.fn (fi := F320) [Str.ofString "self", Str.ofString "f"] [Str.ofString "start"] (fun P => rfl) (fun P => rfl) F320.good rfl rfl ?hb rfl (by decide) ?_
  case hb => wtm_at "q_bind"
  with_unfolding_all show Ex _ _ _ (_ :: _) _ (_ :: _) _
  wtm_at "q_st"
  refine Ex.retK (Ev.tupK (KA := fun us H' => ∃ vs, us = [.int 3, .int (hs.length : Int)] ∧ vs.length = 2 ∧ H' hp = some (.lst (hs ++ vs)) ∧ Off [hp] H H') (EvL.consK (K1 := fun v H1 => v = .int 3 ∧ H1 = H) ?e ?r) ?k)
  case e => wtm_at "q_ev"
  case r =>
    rintro v H1 ⟨rfl, rfl⟩
    refine EvL.consK (Ev.meth (d' := 58) ?o B.st B.sx rfl cm_380_reserve ?a (reserve2_is B hhp hz) (by decide)) ?_
    case o => wtm_at "q_ev"
    case a => wtm_at "q_ev"
    rintro v H2 ⟨vs, rfl, h1, h2, h3⟩
    exact EvL.nilK ⟨vs, rfl, h1, h2, h3⟩
  case k =>
    rintro us H1 ⟨vs, rfl, h1, h2, h3⟩
    exact ⟨by simp, fun m hm => ⟨m, vs, rfl, Hp.set_eq, h1, Hp.set_new hm h2, h3.new hm⟩⟩
theorem block_f {w : World} {H : Hp} {st sx hp sk tr bk bx tx an fn nn : Addr} (B : Base H st sx hp sk tr bk bx tx an fn nn) {hs : List SV} (hhp : H hp = some (.lst hs)) (hz : hs.length ≤ 50000) {f : Int} (hf : ¬ f = 0) (har : SpP w 75 123 [.ref bk, .int f] H (.int 1)) : Sp w 56 320 [.ref st, .int f] H (fun r H' => ∃ m fd v, r = .ref m ∧ H' m = some (cellO 2 (hs.length : Int)) ∧ H' fd = some (cellO 6 f) ∧ H' hp = some (.lst (hs ++ [.ref fd, v])) ∧ Off [hp] H H') := by
  refine Sp.fn (fi := F320) [Str.ofString "self", Str.ofString "f"] [Str.ofString "start"] (fun P => rfl) (fun P => rfl) F320.good rfl rfl ?hb rfl (by decide) ?_
  case hb => wtm_at "q_bind"
  with_unfolding_all show Ex _ _ _ (_ :: _) _ (_ :: _) _
  wtm_at "q_st"
  wtm_at "q_st"
  refine' Ex.assignK (i := 2) (Ev.meth (d' := 58) ?o B.st B.sx rfl cm_380_reserve (vs := [.int 2]) ?a (reserve2_is B hhp hz) (by decide)) (by wtm_at "q_vat") ?_
  case o => wtm_at "q_ev"
  case a =>
    refine EvL.cons (show EvP _ _ _ _ _ _ (.int (1 + 1)) from ?_) EvL.nil
    wtm_at "q_ev"
  rintro v H1 ⟨vs, rfl, h1, h2, h3⟩
  have B1 := B.off h3 hhp
  obtain ⟨v1, v2, rfl⟩ : ∃ v1 v2, vs = [v1, v2] := by
    match vs, h1 with
    | [v1, v2], _ => exact ⟨v1, v2, rfl⟩
  refine' Ex.cons (St.setLK (vs := hs ++ [v1, v2]) (k := (hs.length : Int)) (K1 := fun v H2 => ∃ fd, v = .ref fd ∧ H1 fd = none ∧ H2 = H1.set fd (cellO 6 f)) (Ev.tup (vs := [.int 6, .int f]) ?t (by simp)) ?k)
  case t => wtm_at "q_ev"
  case k =>
    rintro v H2 ⟨fd, rfl, hfd, rfl⟩
    have B2 := B1.fresh (o := cellO 6 f) hfd
    have h22 := Hp.set_new (o := cellO 6 f) hfd h2
    refine ⟨hp, by wtm_at "q_ev", by wtm_at "q_ev", h22, by omega, by simp; omega, by simp; omega, ?_⟩
    have e3 : (hs ++ [v1, v2]).set (hs.length : Int).toNat (.ref fd) = hs ++ [.ref fd, v2] := by
      rw [Int.toNat_natCast, List.set_append_right _ _ (Nat.le_refl _), Nat.sub_self, List.set_cons_zero]
    rw [e3]
    refine Ex.retK (Ev.tupK (KA := fun us H' => us = [.int 2, .int (hs.length : Int)] ∧ H' = (H1.set fd (cellO 6 f)).set hp (.lst (hs ++ [.ref fd, v2]))) ?e ?kk)
    case e => wtm_at "q_ev"
    case kk =>
      rintro us H' ⟨rfl, rfl⟩
      exact ⟨by simp, fun m hm => ⟨m, fd, v2, rfl, Hp.set_eq, Hp.set_new hm (Hp.set_ne (Hp.ne_none hfd h2) Hp.set_eq), Hp.set_new hm Hp.set_eq, ((h3.new hfd).set (by simp)).new hm⟩⟩
end
section
-- T9
theorem struct_is {w : World} {H : Hp} {st sx hp sk tr bk bx tx an fn nn : Addr} (B : Base H st sx hp sk tr bk bx tx an fn nn) {hs : List SV} (hhp : H hp = some (.lst hs)) (hz : hs.length ≤ 40000) {cl : Addr} {cs : List Addr} (hcl : H cl = some (.lst (cs.map SV.ref))) (hne : cl ≠ hp) (hcs : cs ≠ []) (hc9 : cs.length ≤ 100) (hgl : ∀ c ∈ cs, ∀ H', Base H' st sx hp sk tr bk bx tx an fn nn → H' hp = some (.lst hs) → (∀ b o, b ≠ cl → H b = some o → H' b = some o) → SpP w 58 257 [.ref st, .ref c] H' (.ref c))
  {f t : Int} {n : Nat} (ht : if t = 3 then n = 0 else n = 1) {PS : List SV → Hp → Prop}
  (hblk : ∀ H', Base H' st sx hp sk tr bk bx tx an fn nn → H' hp = some (.lst hs) → (∀ b o, b ≠ cl → H b = some o → H' b = some o) → Sp w 56 320 [.ref st, .int f] H' (fun r H'' => ∃ m ps vs, r = .ref m ∧ H'' m = some (cellO t (hs.length : Int)) ∧ vs.length = cs.length ∧ ps.length = n ∧ H'' hp = some (.lst (hs ++ (ps ++ vs))) ∧ Off [hp] H' H'' ∧ ∀ H3, Off [hp] H'' H3 → PS ps H3)) :
  Sp w 50 341 [.ref st, .int f, .ref cl] H (fun r H' => ∃ m ps, r = .ref m ∧ H' m = some (cellO t (hs.length : Int)) ∧ ps.length = n ∧ H' hp = some (.lst (hs ++ (ps ++ cs.map SV.ref))) ∧ Off [hp, cl] H H' ∧ PS ps H') := by
  refine Sp.fn (fi := F341) [Str.ofString "self", Str.ofString "f", Str.ofString "cells"] [Str.ofString "values", Str.ofString "cell", Str.ofString "made", Str.ofString "place", Str.ofString "value"] (fun P => rfl) (fun P => rfl) F341.good rfl rfl ?hb rfl (by decide) ?_
  case hb => wtm_at "q_bind"
  with_unfolding_all show Ex _ _ _ (_ :: _) _ (_ :: _) _
  have hl0 : 0 < cs.length := List.length_pos_iff.mpr hcs
  have hn1 : n ≤ 1 := by split at ht <;> omega
  refine' Ex.iteF (b := (((cs.map SV.ref).length : Int) == 0)) ?t0 (by simp [hcs]) ?_
  case t0 => wtm_at "q_ev"
  refine Ex.nil ?_
  show Ex _ _ _ _ _ _ _
  refine' Ex.assignK (i := 3) (Ev.list (vs := []) EvL.nil) (by wtm_at "q_vat") ?_
  rintro v H1 ⟨vl, rfl, hvl, rfl⟩
  have B1 := B.fresh (o := .lst []) hvl
  have hhp1 := Hp.set_new (o := .lst []) hvl hhp
  have hcl1 := Hp.set_new (o := .lst []) hvl hcl
  have hv1 : (H.set vl (.lst [])) vl = some (.lst []) := Hp.set_eq
  have hle1 : Hle H (H.set vl (.lst [])) := Hle.rfl.new hvl
  have nvh : vl ≠ hp := Hp.ne_none hvl hhp
  have nvc : vl ≠ cl := Hp.ne_none hvl hcl
  generalize H.set vl (.lst []) = H1 at B1 hhp1 hcl1 hv1 hle1 ⊢
  refine Ex.forSeq (K1 := fun v H' => v = .ref cl ∧ H' = H1) ?it ?_
  case it => wtm_at "q_ev"
  rintro v H2 ⟨rfl, rfl⟩
  refine ⟨cl, _, cs.map SV.ref, fun us N' H' => ∃ pre post u, cs = pre ++ post ∧ us = post.map SV.ref ∧ N' = [.ref st, .int f, .ref cl, .ref vl, u, .unb, .unb, .unb] ∧ H' vl = some (.lst (pre.map SV.ref)) ∧ H' hp = some (.lst hs) ∧ Base H' st sx hp sk tr bk bx tx an fn nn ∧ (∀ b o, b ≠ cl → H b = some o → H' b = some o), rfl, hcl1, .inr rfl, ?start, ?turn, ?exit⟩
  case start =>
    refine ⟨[], cs, _, rfl, rfl, rfl, Hp.del_ne nvc hv1, Hp.del_ne hne.symm hhp1, ⟨Hp.del_kind hcl1 B1.st (fun q => by cases q), Hp.del_kind hcl1 B1.sx (fun q => by cases q), Hp.del_kind hcl1 B1.bk (fun q => by cases q), Hp.del_kind hcl1 B1.bx (fun q => by cases q)⟩, fun b o hb e => Hp.del_ne hb (hle1 _ _ e)⟩
  case turn =>
    rintro u r N' H' ⟨pre, post, u0, e, hr, rfl, h1, h2, B', ho⟩
    cases post with
    | nil => cases hr
    | cons c post =>
      cases hr
      have hg := hgl c (by rw [e]; simp) H' B' h2 ho
      have hpl : pre.length ≤ 100 := by have := congrArg List.length e; simp at this; omega
      refine ⟨_, Asg.name (by wtm_at "q_vat"), ?_⟩
      refine' Ex.expr (Ev.append (K1 := fun v H3 => v = .ref c ∧ H3 = H') (K := fun v H3 => v = .none ∧ H3 = H'.set vl (.lst (pre.map SV.ref ++ [.ref c]))) ?o h1 ?e ?k) ?_
      case o => wtm_at "q_ev"
      case e => wtm_at "q_ev"
      case k => rintro v H3 ⟨rfl, rfl⟩; exact ⟨_, h1, by simp; omega, rfl, rfl⟩
      rintro v H3 ⟨rfl, rfl⟩
      refine Ex.nil ⟨pre ++ [c], post, _, by rw [e]; simp, rfl, rfl, by rw [List.map_append]; exact Hp.set_eq, Hp.set_ne nvh.symm h2, B'.lst h1, fun b o hb eb => ?_⟩
      refine Hp.set_ne ?_ (ho b o hb eb)
      intro q; rw [q, hvl] at eb; cases eb
  case exit =>
    rintro N' H' ⟨pre, post, u0, e, hr, rfl, h1, h2, B', ho⟩
    refine ⟨H', .inl rfl, ?_⟩
    cases post with
    | cons c post => cases hr
    | nil =>
      rw [List.append_nil] at e
      subst e
      refine' Ex.assignK (i := 5) (Ev.meth (d' := 56) ?o B'.st B'.sx rfl cm_380_new_block ?a (hblk H' B' h2 ho) (by decide)) (by wtm_at "q_vat") ?_
      case o => wtm_at "q_ev"
      case a => wtm_at "q_ev"
      rintro v H3 ⟨m, ps, vs, rfl, hm, hvs, hps, hhp3, off3, hPS⟩
      have B3 := B'.off off3 h2
      have hv3 : H3 vl = some (.lst (cs.map SV.ref)) := off3 _ _ (by simp; exact nvh) h1
      have hbase : SpP w 70 306 [.ref st, .ref m] H3 (.int ((hs.length : Int) + n)) := by
        have := base_is (w := w) (st := st) hm
        have e : (if t = 3 then (hs.length : Int) else (hs.length : Int) + 1) = (hs.length : Int) + n := by
          split at ht <;> rename_i h <;> simp [h, ht]
        rw [e] at this
        exact this
      wtm_at "q_st"
      have nmv : m ≠ vl := Hp.ne_of hm hv3 (fun q => by cases q)
      have nmh : m ≠ hp := Hp.ne_of hm hhp3 (fun q => by cases q)
      refine Ex.forSeq (K1 := fun v H' => v = .ref vl ∧ H' = H3) ?it2 ?_
      case it2 => wtm_at "q_ev"
      rintro v H4 ⟨rfl, rfl⟩
      refine ⟨vl, _, cs.map SV.ref, fun us N' H5 => ∃ pre post vs' u, cs = pre ++ post ∧ us = post.map SV.ref ∧ vs'.length = post.length ∧ N' = [.ref st, .int f, .ref cl, .ref vl, u0, .ref m, .int ((hs.length : Int) + n + (pre.length : Int)), u] ∧ H5 hp = some (.lst (hs ++ (ps ++ (pre.map SV.ref ++ vs')))) ∧ Base H5 st sx hp sk tr bk bx tx an fn nn ∧ (∀ b o, b ≠ vl → b ≠ hp → H4 b = some o → H5 b = some o), rfl, hv3, .inr rfl, ?start2, ?turn2, ?exit2⟩
      case start2 =>
        refine ⟨[], cs, vs, .unb, rfl, rfl, hvs, by rw [show ((hs.length : Int) + n + (([] : List Addr).length : Int)) = (hs.length : Int) + n from by simp]; rfl, Hp.del_ne nvh.symm hhp3, ⟨Hp.del_kind hv3 B3.st (fun q => by cases q), Hp.del_kind hv3 B3.sx (fun q => by cases q), Hp.del_kind hv3 B3.bk (fun q => by cases q), Hp.del_kind hv3 B3.bx (fun q => by cases q)⟩, fun b o hb _ e => Hp.del_ne hb e⟩
      case turn2 =>
        rintro u r N' H5 ⟨pre, post, vs', u1, e, hr, hvl', rfl, h5, B5, ho5⟩
        cases post with
        | nil => cases hr
        | cons c post =>
          cases hr
          match vs', hvl' with
          | v1 :: vs', hvl' =>
            have hpl : pre.length ≤ 100 := by have := congrArg List.length e; simp at this; omega
            have hvl2 : vs'.length = post.length := by simpa using hvl'
            have hpl2 : post.length ≤ 100 := by have := congrArg List.length e; simp at this; omega
            refine ⟨_, Asg.name (by wtm_at "q_vat"), ?_⟩
            refine' Ex.setL (v := .ref c) (k := (hs.length : Int) + n + (pre.length : Int)) ?e ?o ?i h5 (by omega) (by simp; omega) (by simp; omega) ?_
            case e => wtm_at "q_ev"
            case o => wtm_at "q_ev"
            case i => wtm_at "q_ev"
            have e3 : (hs ++ (ps ++ (pre.map SV.ref ++ v1 :: vs'))).set ((hs.length : Int) + n + (pre.length : Int)).toNat (.ref c) = hs ++ (ps ++ ((pre ++ [c]).map SV.ref ++ vs')) := by
              have en : ((hs.length : Int) + n + (pre.length : Int)).toNat = hs.length + (ps.length + (pre.length + 0)) := by omega
              rw [en, List.set_append_right _ _ (by omega), Nat.add_sub_cancel_left, List.set_append_right _ _ (by omega), Nat.add_sub_cancel_left]
              rw [List.set_append_right _ _ (by simp)]
              simp
            rw [e3]
            wtm_at "q_st"
            refine Ex.nil ⟨pre ++ [c], post, vs', .ref c, by rw [e]; simp, rfl, hvl2, ?_, Hp.set_eq, B5.lst h5, fun b o hb hb2 eb => Hp.set_ne hb2 (ho5 b o hb hb2 eb)⟩
            rw [show ((hs.length : Int) + n + (((pre ++ [c]).length : Nat) : Int)) = (hs.length : Int) + n + (pre.length : Int) + 1 from by simp; omega]
            rfl
      case exit2 =>
        rintro N' H5 ⟨pre, post, vs', u1, e, hr, hvl', rfl, h5, B5, ho5⟩
        cases post with
        | cons c post => cases hr
        | nil =>
          rw [List.append_nil] at e
          subst e
          have hvn : vs' = [] := List.length_eq_zero_iff.mp hvl'
          subst hvn
          refine ⟨_, .inr rfl, ?_⟩
          have hoff : Off [hp] H4 (H5.set vl (.lst (cs.map SV.ref))) := by
            intro b o hb eb
            by_cases hbv : b = vl
            · subst hbv; rw [hv3] at eb; cases eb; exact Hp.set_eq
            · exact Hp.set_ne hbv (ho5 b o hbv (by simpa using hb) eb)
          refine Ex.ret (v := .ref m) ?_ ⟨m, ps, rfl, hoff _ _ (by simp; exact nmh) hm, hps, Hp.set_ne nvh.symm (by simpa using h5), ?_, hPS _ hoff⟩
          · wtm_at "q_ev"
          · intro b o hb eb
            simp only [List.mem_cons, List.not_mem_nil, or_false, not_or] at hb
            refine hoff _ _ (by simp; exact hb.1) (off3 _ _ (by simp; exact hb.1) (ho b o hb.2 eb))
end
section
-- T10
noncomputable abbrev urnO (u : Int) (sc : Addr) (k : Int) : SO := .lst [.int u, .ref sc, .int k]
theorem pick_is {w : World} {H : Hp} {un sc : Addr} {u k fc : Int} {ns : List Int} (hu : H un = some (urnO u sc k)) (hs : H sc = some (intL ns)) (hz : ns.length ≤ 100) (k0 : 0 ≤ k) (k1 : k ≤ 100) (f0 : 0 < fc) (hp : fc.natAbs.log2 < 9000) :
  Sp w 40 466 [.ref un, .int fc] H (fun r H' => ∃ z u' k', r = .int z ∧ 0 ≤ z ∧ z < fc ∧ 0 ≤ k' ∧ k' ≤ 100 ∧ H' = H.set un (urnO u' sc k')) := by
  refine Sp.fn (fi := F466) [Str.ofString "urn", Str.ofString "faces"] [Str.ofString "face"] (fun P => rfl) (fun P => rfl) F466.good rfl rfl ?hb rfl (by decide) ?_
  case hb => wtm_at "q_bind"
  with_unfolding_all show Ex _ _ _ (_ :: _) _ (_ :: _) _
  have tail : ∀ (H1 : Hp) (u1 k2 : Int), H1 un = some (urnO u1 sc k2) → 0 ≤ k2 → k2 ≤ 100 → (∀ u', H1.set un (urnO u' sc k2) = H.set un (urnO u' sc k2)) → Ex w (40 + 1) F466 [.ref un, .int fc, .unb] H1 (fdBody (stAt PW 34)).tail (kret fun r H' => ∃ z u' k', r = .int z ∧ 0 ≤ z ∧ z < fc ∧ 0 ≤ k' ∧ k' ≤ 100 ∧ H' = H.set un (urnO u' sc k')) := by
    intro H1 u1 k2 h1 a0 a1 he
    with_unfolding_all show Ex _ _ _ (_ :: _) _ (_ :: _) _
    refine' Ex.assign (i := 2) (Ev.mod (a := u1) (b := fc) ?a ?b (Int.ne_of_gt f0)) (by wtm_at "q_vat") ?_
    case a => wtm_at "q_ev"
    case b => wtm_at "q_ev"
    refine' Ex.augL (x := u1) (y := fc) (k := 0) (r := u1.fdiv fc) ?o ?i ?e h1 (by decide) (by decide) rfl (fun c s Q E t u ret => PyProof.Rows.ifloordiv_int (Int.ne_of_gt f0) (ret _ _) (.inl (PyProof.noPylong_of_log2 hp))) ?_
    case o => wtm_at "q_ev"
    case i => wtm_at "q_ev"
    case e => wtm_at "q_ev"
    refine Ex.ret (v := .int (u1.fmod fc)) ?_ ⟨_, u1.fdiv fc, k2, rfl, Int.fmod_nonneg_of_pos _ f0, Int.fmod_lt_of_pos _ f0, a0, a1, he _⟩
    wtm_at "q_ev"
  refine' Ex.ite (b := (u == 0) && decide (k < ((ns.map SV.int).length : Int))) ?t ?yes ?no
  case t =>
    refine' EvB.and2 ?ta (fun _ => ?tb)
    case ta => wtm_at "q_ev"
    case tb => wtm_at "q_ev"
  case no =>
    intro _
    refine Ex.nil ?_
    exact tail H u k hu k0 k1 (fun _ => rfl)
  case yes =>
    intro hb
    simp only [Bool.and_eq_true, decide_eq_true_eq, List.length_map] at hb
    have hlt : k.toNat < ns.length := by omega
    have gx : (ns.map SV.int)[k.toNat]? = some (.int ns[k.toNat]) := by rw [List.getElem?_map, List.getElem?_eq_getElem hlt]; rfl
    refine' Ex.setL (v := .int (if ns[k.toNat] < 0 then -ns[k.toNat] else ns[k.toNat])) (k := 0) (Ev.abs rfl (Ev.intc rfl ?e)) ?o ?i hu (by decide) (by simp) (by simp) ?_
    case e => wtm_at "q_ev"
    case o => wtm_at "q_ev"
    case i => wtm_at "q_ev"
    have h1 : (H.set un (.lst ([.int u, .ref sc, .int k].set (0 : Int).toNat (.int (if ns[k.toNat] < 0 then -ns[k.toNat] else ns[k.toNat]))))) un = some (urnO (if ns[k.toNat] < 0 then -ns[k.toNat] else ns[k.toNat]) sc k) := Hp.set_eq
    refine' Ex.augL (x := k) (y := 1) (k := 2) (r := k + 1) ?o2 ?i2 ?e2 h1 (by decide) (by decide) rfl (fun c s Q E t u ret => iadd_int (ret _ _)) ?_
    case o2 => wtm_at "q_ev"
    case i2 => wtm_at "q_ev"
    case e2 => wtm_at "q_ev"
    refine Ex.nil ?_
    exact tail _ (if ns[k.toNat] < 0 then -ns[k.toNat] else ns[k.toNat]) (k + 1) Hp.set_eq (by omega) (by omega) (fun u' => by
      funext b
      unfold Hp.set
      by_cases hbu : b = un <;> simp [hbu])
end
section
-- T11
/-- the store and the book as they stand between two keys -/
structure Wd (H : Hp) (st sx hp sk tr bk bx tx an fn nn : Addr) (hs : List SV) (T : List Str) (F : List (Addr × Int × Int)) (d0 d1 : Addr) : Prop where
  pB : Base H st sx hp sk tr bk bx tx an fn nn
  php : H hp = some (.lst hs)
  pbi : BookI H tx an fn nn T F
  pn1 : hp ≠ tx
  pn2 : hp ≠ fn
  pe0 : hs[0]? = some (.ref d0)
  pe1 : H d0 = some (cellO 0 0)
  pe2 : hs[1]? = some (.ref d1)
  pe3 : H d1 = some (cellO 0 1)
  pf0 : ∃ k a, F[0]? = some (k, a, 2)
noncomputable abbrev sB : Str := Str.ofString "b"
noncomputable abbrev sBA : Str := Str.ofString "ba"
noncomputable abbrev sG : Str := Str.ofString "g"
/-- a key of a level -/
inductive Key (H : Hp) (hs : List SV) (T : List Str) (F : List (Addr × Int × Int)) (low gap : Int) : Int → Addr → Prop
  | ref {lv : Int} {p : Nat} {c e : Addr} : lv = 0 ∨ lv = 1 → H c = some (cellO 0 (p : Int)) → 2 ≤ p → hs[p]? = some (.ref e) → H e = some (cellO 0 lv) → Key H hs T F low gap lv c
  | int2 {c : Addr} : H c = some (cellO 5 low) → Key H hs T F low gap 2 c
  | int3 {c : Addr} : H c = some (cellO 5 (low + gap)) → Key H hs T F low gap 3 c
  | con4 {c : Addr} {q : Nat} : H c = some (cellO 4 (q : Int)) → T[q]? = some sB → Key H hs T F low gap 4 c
  | con5 {c : Addr} {q : Nat} : H c = some (cellO 4 (q : Int)) → T[q]? = some sBA → Key H hs T F low gap 5 c
  | g {lv : Int} {p q a : Nat} {c fd x k : Addr} : lv = 6 ∨ lv = 7 → H c = some (cellO 2 (p : Int)) → hs[p]? = some (.ref fd) → H fd = some (cellO 6 (q : Int)) → F[q]? = some (k, (a : Int), 1) → T[a]? = some sG → hs[p + 1]? = some (.ref x) → H x = some (cellO 5 lv) → Key H hs T F low gap lv c
  | lst {p q : Nat} {c x y : Addr} : H c = some (cellO 3 (p : Int)) → hs[p]? = some (.ref x) → H x = some (cellO 4 (q : Int)) → T[q]? = some sB → hs[p + 1]? = some (.ref y) → H y = some (cellO 0 1) → Key H hs T F low gap 8 c
theorem pre_get {α : Type} {l l' : List α} {i : Nat} {x : α} (h : l <+: l') (e : l[i]? = some x) : l'[i]? = some x := by
  obtain ⟨s, rfl⟩ := h
  rw [List.getElem?_append_left (List.getElem?_eq_some_iff.mp e).1]; exact e
theorem Key.mono {H H' : Hp} {hs hs' : List SV} {T T' : List Str} {F F' : List (Addr × Int × Int)} {low gap lv : Int} {c : Addr} (h : Key H hs T F low gap lv c) (hc : ∀ a t k, H a = some (cellO t k) → H' a = some (cellO t k)) (h1 : hs <+: hs') (h2 : T <+: T') (h3 : F <+: F') : Key H' hs' T' F' low gap lv c := by
  cases h with
  | ref a b c d e => exact .ref a (hc _ _ _ b) c (pre_get h1 d) (hc _ _ _ e)
  | int2 a => exact .int2 (hc _ _ _ a)
  | int3 a => exact .int3 (hc _ _ _ a)
  | con4 a b => exact .con4 (hc _ _ _ a) (pre_get h2 b)
  | con5 a b => exact .con5 (hc _ _ _ a) (pre_get h2 b)
  | g a b c d e t f g => exact .g a (hc _ _ _ b) (pre_get h1 c) (hc _ _ _ d) (pre_get h3 e) (pre_get h2 t) (pre_get h1 f) (hc _ _ _ g)
  | lst a b c d e f => exact .lst (hc _ _ _ a) (pre_get h1 b) (hc _ _ _ c) (pre_get h2 d) (pre_get h1 e) (hc _ _ _ f)
/-- cells are never turned: only the store's heap and the book's tables are -/
theorem Wd.cell {H H' : Hp} {st sx hp sk tr bk bx tx an fn nn : Addr} {hs : List SV} {T : List Str} {F : List (Addr × Int × Int)} {d0 d1 : Addr} (W : Wd H st sx hp sk tr bk bx tx an fn nn hs T F d0 d1) (o : Off [hp, tx, an, fn, nn] H H') {a : Addr} {t k : Int} (h : H a = some (cellO t k)) : H' a = some (cellO t k) :=
  o _ _ (by
    simp only [List.mem_cons, List.not_mem_nil, or_false, not_or]
    exact ⟨Hp.ne_of h W.php (fun q => by cases q), Hp.ne_of h W.pbi.ptx (fun q => by cases q), Hp.ne_of h W.pbi.pan (fun q => by cases q), Hp.ne_of h W.pbi.pfn (fun q => by cases q), Hp.ne_of h W.pbi.pnn (fun q => by cases q)⟩) h
theorem Wd.inst {H H' : Hp} {st sx hp sk tr bk bx tx an fn nn : Addr} {hs : List SV} {T : List Str} {F : List (Addr × Int × Int)} {d0 d1 : Addr} (W : Wd H st sx hp sk tr bk bx tx an fn nn hs T F d0 d1) (o : Off [hp, tx, an, fn, nn] H H') : Base H' st sx hp sk tr bk bx tx an fn nn := by
  have f : ∀ {a : Addr} {r : SO}, H a = some r → (∀ vs, r ≠ .lst vs) → (∀ es, r ≠ .stab es) → (∀ es, r ≠ .ttab es) → H' a = some r := fun {a r} h k1 k2 k3 => o _ _ (by
    simp only [List.mem_cons, List.not_mem_nil, or_false, not_or]
    exact ⟨Hp.ne_of h W.php (k1 _), Hp.ne_of h W.pbi.ptx (k1 _), Hp.ne_of h W.pbi.pan (k2 _), Hp.ne_of h W.pbi.pfn (k1 _), Hp.ne_of h W.pbi.pnn (k3 _)⟩) h
  exact ⟨f W.pB.st (fun _ q => by cases q) (fun _ q => by cases q) (fun _ q => by cases q), f W.pB.sx (fun _ q => by cases q) (fun _ q => by cases q) (fun _ q => by cases q), f W.pB.bk (fun _ q => by cases q) (fun _ q => by cases q) (fun _ q => by cases q), f W.pB.bx (fun _ q => by cases q) (fun _ q => by cases q) (fun _ q => by cases q)⟩
theorem Wd.next {H H' : Hp} {st sx hp sk tr bk bx tx an fn nn : Addr} {hs hs' : List SV} {T T' : List Str} {F F' : List (Addr × Int × Int)} {d0 d1 : Addr} (W : Wd H st sx hp sk tr bk bx tx an fn nn hs T F d0 d1) (o : Off [hp, tx, an, fn, nn] H H') (h1 : hs <+: hs') (h3 : F <+: F') (hh : H' hp = some (.lst hs')) (hb : BookI H' tx an fn nn T' F') : Wd H' st sx hp sk tr bk bx tx an fn nn hs' T' F' d0 d1 :=
  ⟨W.inst o, hh, hb, W.pn1, W.pn2, pre_get h1 W.pe0, W.cell o W.pe1, pre_get h1 W.pe2, W.cell o W.pe3, let ⟨k, a, e⟩ := W.pf0; ⟨k, a, pre_get h3 e⟩⟩
theorem BookI.fresh {H : Hp} {tx an fn nn a : Addr} {o : SO} {T : List Str} {F : List (Addr × Int × Int)} (b : BookI H tx an fn nn T F) (ha : H a = none) : BookI (H.set a o) tx an fn nn T F := b.le (Hle.rfl.new ha)
theorem BookI.offHp {H H' : Hp} {tx an fn nn hp : Addr} {hs : List SV} {T : List Str} {F : List (Addr × Int × Int)} (b : BookI H tx an fn nn T F) (o : Off [hp] H H') (hh : H hp = some (.lst hs)) (h1 : hp ≠ tx) (h2 : hp ≠ fn) : BookI H' tx an fn nn T F :=
  b.off o (by simp; exact h1.symm) (by simp; exact Hp.ne_of b.pan hh (fun q => by cases q)) (by simp; exact h2.symm) (by simp; exact Hp.ne_of b.pnn hh (fun q => by cases q)) (fun p hp' => by simp; exact Hp.ne_of (b.pks p hp') hh (fun q => by cases q))
/-- the post of a key -/
noncomputable def KeyPost (H : Hp) (st sx hp sk tr bk bx tx an fn nn : Addr) (hs : List SV) (T : List Str) (F : List (Addr × Int × Int)) (d0 d1 : Addr) (low gap lv : Int) (r : SV) (H' : Hp) : Prop :=
  ∃ c hs' T' F', r = .ref c ∧ Wd H' st sx hp sk tr bk bx tx an fn nn hs' T' F' d0 d1 ∧ Key H' hs' T' F' low gap lv c ∧ hs <+: hs' ∧ T <+: T' ∧ F <+: F' ∧ hs'.length ≤ hs.length + 2 ∧ T'.length ≤ T.length + 1 ∧ F'.length ≤ F.length + 1 ∧ Off [hp, tx, an, fn, nn] H H'
theorem key_is {w : World} {H : Hp} {st sx hp sk tr bk bx tx an fn nn : Addr} {hs : List SV} {T : List Str} {F : List (Addr × Int × Int)} {d0 d1 : Addr} (W : Wd H st sx hp sk tr bk bx tx an fn nn hs T F d0 d1) (hz : hs.length ≤ 10000) (hT : T.length ≤ 9000) (hF : F.length ≤ 9000) {lv low gap : Int} (l0 : 0 ≤ lv) (l1 : lv ≤ 8) :
  Sp w 45 473 [.ref st, .ref bk, .int lv, .int low, .int gap] H (KeyPost H st sx hp sk tr bk bx tx an fn nn hs T F d0 d1 low gap lv) := by
  refine Sp.fn (fi := F473) [Str.ofString "heap_cells", Str.ofString "book", Str.ofString "level", Str.ofString "low", Str.ofString "gap"] [] (fun P => rfl) (fun P => rfl) F473.good rfl rfl ?hb rfl (by decide) ?_
  case hb => wtm_at "q_bind"
  with_unfolding_all show Ex _ _ _ (_ :: _) _ (_ :: _) _
  have B := W.pB
  have hhp := W.php
  have hbi := W.pbi
  have hl2 : 2 ≤ hs.length := (List.getElem?_eq_some_iff.mp W.pe2).1
  have c1 : bk ∉ [tx, an] := by simp; exact ⟨Hp.ne_of B.bk hbi.ptx (fun q => by cases q), Hp.ne_of B.bk hbi.pan (fun q => by cases q)⟩
  by_cases h2 : lv < 2
  · wtm_at "q_st"
    refine Ex.retK (Ev.tupK (KA := fun us H' => ∃ e, us = [.int 0, .int (hs.length : Int)] ∧ H e = none ∧ H' = (H.set e (cellO 0 lv)).set hp (.lst (hs ++ [.ref e]))) (EvL.consK (K1 := fun v H1 => v = .int 0 ∧ H1 = H) ?e ?r) ?k)
    case e => wtm_at "q_ev"
    case r =>
      rintro v H1 ⟨rfl, rfl⟩
      refine EvL.consK (Ev.methK (d' := 60) (KA := fun us H' => ∃ e, us = [.ref e] ∧ H1 e = none ∧ H' = H1.set e (cellO 0 lv)) (K := fun v H' => ∃ e, v = .int (hs.length : Int) ∧ H1 e = none ∧ H' = (H1.set e (cellO 0 lv)).set hp (.lst (hs ++ [.ref e]))) ?o B.st B.sx rfl cm_380_push (EvL.consK (Ev.tup (vs := [.int 0, .int lv]) ?t (by simp)) ?n) ?s (by decide)) ?m
      case o => wtm_at "q_ev"
      case t => wtm_at "q_ev"
      case n => rintro v H2 ⟨e, rfl, he, rfl⟩; exact EvL.nilK ⟨e, rfl, he, rfl⟩
      case s =>
        rintro vs H2 ⟨e, rfl, he, rfl⟩
        refine (push_is (B.fresh he) (Hp.set_new he hhp) (by omega)).mono ?_
        rintro r H3 ⟨rfl, rfl⟩
        exact ⟨e, rfl, he, rfl⟩
      case m => rintro v H2 ⟨e, rfl, he, rfl⟩; exact EvL.nilK ⟨e, rfl, he, rfl⟩
    case k =>
      rintro us H1 ⟨e, rfl, he, rfl⟩
      refine ⟨by simp, fun c hc => ?_⟩
      have o1 : Off [hp] H (((H.set e (cellO 0 lv)).set hp (.lst (hs ++ [.ref e]))).set c (.tup [.int 0, .int (hs.length : Int)])) := ((Off.rfl.new he).set (by simp)).new hc
      have eh : e ≠ hp := Hp.ne_none he hhp
      have h3 : (((H.set e (cellO 0 lv)).set hp (.lst (hs ++ [.ref e]))).set c (.tup [.int 0, .int (hs.length : Int)])) e = some (cellO 0 lv) := Hp.set_new hc (Hp.set_ne eh Hp.set_eq)
      refine ⟨c, hs ++ [.ref e], T, F, rfl, W.next (o1.more (by simp)) (List.prefix_append _ _) List.prefix_rfl (Hp.set_new hc Hp.set_eq) (hbi.offHp o1 hhp W.pn1 W.pn2), .ref (p := hs.length) (by omega) Hp.set_eq hl2 (by simp) h3, List.prefix_append _ _, List.prefix_rfl, List.prefix_rfl, by simp, by omega, by omega, o1.more (by simp)⟩
  · by_cases h4 : lv < 4
    · have fin : ∀ z, (lv = 2 ∧ z = low) ∨ (lv = 3 ∧ z = low + gap) → ∀ r H', (∃ a, r = .ref a ∧ H a = none ∧ H' = H.set a (.tup [.int 5, .int z])) → KeyPost H st sx hp sk tr bk bx tx an fn nn hs T F d0 d1 low gap lv r H' := by
        rintro z hzz r H' ⟨a, rfl, ha, rfl⟩
        refine ⟨a, hs, T, F, rfl, W.next (Off.rfl.new ha) List.prefix_rfl List.prefix_rfl (Hp.set_new ha hhp) (hbi.fresh ha), ?_, List.prefix_rfl, List.prefix_rfl, List.prefix_rfl, by omega, by omega, by omega, Off.rfl.new ha⟩
        rcases hzz with ⟨rfl, rfl⟩ | ⟨rfl, rfl⟩
        · exact .int2 Hp.set_eq
        · exact .int3 Hp.set_eq
      wtm_at "q_st"
      wtm_at "q_st"
      wtm_at "q_st"
      refine Ex.retK ((Ev.tup (vs := [.int 5, .int (if lv = 2 then low else low + gap)]) (EvL.cons ?a (EvL.cons (Ev.ifx (c0 := lv == 2) ?b ?c ?d) EvL.nil)) (by simp)).mono ?k)
      case a => wtm_at "q_ev"
      case b => wtm_at "q_ev"
      case c =>
        intro h
        simp only [beq_iff_eq] at h
        rw [if_pos h]
        wtm_at "q_ev"
      case d =>
        intro h
        simp only [beq_eq_false_iff_ne, ne_eq] at h
        rw [if_neg h]
        wtm_at "q_ev"
      case k =>
        intro r H' hk
        refine fin _ ?_ r H' hk
        by_cases h : lv = 2
        · exact .inl ⟨h, if_pos h⟩
        · exact .inr ⟨by omega, if_neg h⟩
    · by_cases h6 : lv < 6
      · wtm_at "q_st"
        wtm_at "q_st"
        wtm_at "q_st"
        wtm_at "q_st"
        wtm_at "q_st"
        refine Ex.retK (Ev.tupK (KA := fun us H' => ∃ T' q, us = [.int 4, .int ((q : Nat) : Int)] ∧ T'[q]? = some (if lv = 4 then sB else sBA) ∧ T <+: T' ∧ T'.length ≤ T.length + 1 ∧ BookI H' tx an fn nn T' F ∧ Off [tx, an] H H') (EvL.consK (K1 := fun v H1 => v = .int 4 ∧ H1 = H) ?e ?r) ?k)
        case e => wtm_at "q_ev"
        case r =>
          rintro v H1 ⟨rfl, rfl⟩
          refine EvL.consK (Ev.meth (d' := 60) (vs := [.str (if lv = 4 then sB else sBA)]) ?o B.bk B.bx rfl cm_154_atom (EvL.cons (Ev.ifx (c0 := lv == 4) ?b ?c ?d) EvL.nil) (atom_is B.bk B.bx hbi (by omega)) (by decide)) ?m
          case o => wtm_at "q_ev"
          case b => wtm_at "q_ev"
          case c =>
            intro h
            simp only [beq_iff_eq] at h
            rw [if_pos h]
            exact Ev.str
          case d =>
            intro h
            simp only [beq_eq_false_iff_ne, ne_eq] at h
            rw [if_neg h]
            exact Ev.str
          case m =>
            rintro v H2 ⟨T', q, rfl, g1, g2, g3, g4, g5, _⟩
            exact EvL.nilK ⟨T', q, rfl, g1, g2, g3, g4, g5⟩
        case k =>
          rintro us H1 ⟨T', q, rfl, g1, g2, g3, g4, g5⟩
          refine ⟨by simp, fun c hc => ?_⟩
          have o1 : Off [tx, an] H (H1.set c (.tup [.int 4, .int ((q : Nat) : Int)])) := g5.new hc
          have hph : H1 hp = some (.lst hs) := g5 _ _ (by simp; exact ⟨W.pn1, Hp.ne_of hhp hbi.pan (fun q => by cases q)⟩) hhp
          refine ⟨c, hs, T', F, rfl, W.next (o1.more (by simp)) List.prefix_rfl List.prefix_rfl (Hp.set_new hc hph) (g4.fresh hc), ?_, List.prefix_rfl, g2, List.prefix_rfl, by omega, g3, by omega, o1.more (by simp)⟩
          by_cases h : lv = 4
          · subst h
            rw [if_pos rfl] at g1
            exact .con4 Hp.set_eq g1
          · rw [if_neg h] at g1
            obtain rfl : lv = 5 := by omega
            exact .con5 Hp.set_eq g1
      · by_cases h8 : lv < 8
        · wtm_at "q_st"
          wtm_at "q_st"
          wtm_at "q_st"
          wtm_at "q_st"
          wtm_at "q_st"
          wtm_at "q_st"
          wtm_at "q_st"
          refine' Ex.retK (Ev.methK (d' := 50) (KA := fun us H' => ∃ T' F' q k a c0 cl H1, us = [.int ((q : Nat) : Int), .ref cl] ∧ F'[q]? = some (k, ((a : Nat) : Int), 1) ∧ T'[a]? = some sG ∧ F <+: F' ∧ F'.length ≤ F.length + 1 ∧ T <+: T' ∧ T'.length ≤ T.length + 1 ∧ BookI H1 tx an fn nn T' F' ∧ Off [tx, an, fn, nn] H H1 ∧ H1 c0 = none ∧ (H1.set c0 (cellO 5 lv)) cl = none ∧ H' = (H1.set c0 (cellO 5 lv)).set cl (.lst [.ref c0])) ?o B.st B.sx rfl cm_380_new_struct (EvL.consK (Ev.meth (d' := 55) ?o2 B.bk B.bx rfl cm_154_func ?a2 (func_is (n := 1) (x := sG) B.bk B.bx hbi (by omega) (by omega)) (by decide)) ?k2) ?s (by decide))
          case o => wtm_at "q_ev"
          case o2 => wtm_at "q_ev"
          case a2 => wtm_at "q_ev"
          case k2 =>
            rintro v H1 ⟨T', F', q, k, a, rfl, g1, gT, g2, g3, g4, g5, g6, g7, _⟩
            refine EvL.consK (Ev.listK (KA := fun us H' => ∃ c0, us = [.ref c0] ∧ H1 c0 = none ∧ H' = H1.set c0 (cellO 5 lv)) (K := fun v H' => ∃ c0 cl, v = .ref cl ∧ H1 c0 = none ∧ (H1.set c0 (cellO 5 lv)) cl = none ∧ H' = (H1.set c0 (cellO 5 lv)).set cl (.lst [.ref c0])) (EvL.consK (Ev.tup (vs := [.int 5, .int lv]) ?t (by simp)) ?n) ?l) ?m
            case t => wtm_at "q_ev"
            case n => rintro v H2 ⟨c0, rfl, hc0, rfl⟩; exact EvL.nilK ⟨c0, rfl, hc0, rfl⟩
            case l => rintro us H2 ⟨c0, rfl, hc0, rfl⟩; exact ⟨by simp, fun cl hcl => ⟨c0, cl, rfl, hc0, hcl, rfl⟩⟩
            case m => rintro v H2 ⟨c0, cl, rfl, hc0, hcl, rfl⟩; exact EvL.nilK ⟨T', F', q, k, a, c0, cl, H1, rfl, g1, gT, g2, g3, g4, g5, g6, g7, hc0, hcl, rfl⟩
          case s =>
            rintro us H2 ⟨T', F', q, k, a, c0, cl, H1, rfl, g1, gT, g2, g3, g4, g5, g6, g7, hc0, hcl, rfl⟩
            have o1 : Off [hp, tx, an, fn, nn] H H1 := g7.more (by simp)
            have nh : hp ∉ [tx, an, fn, nn] := by simp; exact ⟨W.pn1, Hp.ne_of hhp hbi.pan (fun q => by cases q), W.pn2, Hp.ne_of hhp hbi.pnn (fun q => by cases q)⟩
            have hh1 : H1 hp = some (.lst hs) := g7 _ _ nh hhp
            have le2 : Hle H1 ((H1.set c0 (cellO 5 lv)).set cl (.lst [.ref c0])) := (Hle.rfl.new hc0).new hcl
            have hcl2 : ((H1.set c0 (cellO 5 lv)).set cl (.lst [.ref c0])) cl = some (.lst ([c0].map SV.ref)) := Hp.set_eq
            have hc2 : ((H1.set c0 (cellO 5 lv)).set cl (.lst [.ref c0])) c0 = some (cellO 5 lv) := Hp.set_new hcl Hp.set_eq
            have ncl : H1 cl = none := (Hle.rfl.new hc0).none hcl
            have W1 : Wd H1 st sx hp sk tr bk bx tx an fn nn hs T' F' d0 d1 := W.next o1 List.prefix_rfl g2 hh1 g6
            have B2 := W1.pB.le le2
            have hh2 := le2 _ _ hh1
            have b2 := g6.le le2
            have hq0 : ¬ ((q : Nat) : Int) = 0 := by
              intro h
              have h0 : q = 0 := by omega
              subst h0
              obtain ⟨k9, a9, e9⟩ := W1.pf0
              rw [e9] at g1
              cases g1
            generalize (H1.set c0 (cellO 5 lv)).set cl (.lst [.ref c0]) = H2 at le2 hcl2 hc2 B2 hh2 b2 ⊢
            have clh : cl ≠ hp := Hp.ne_none ncl hh1
            refine (struct_is (cs := [c0]) (t := 2) (n := 1) (PS := fun ps H' => ∃ fd, ps = [.ref fd] ∧ H' fd = some (cellO 6 (q : Int))) B2 hh2 (by omega) hcl2 clh (by simp) (by simp) ?gl (by simp) ?blk).mono ?post
            case gl =>
              intro c hc H' B' _ hk
              rw [List.mem_singleton] at hc
              subst hc
              have hc' := hk _ _ (Hp.ne_of hc2 hcl2 (fun q => by cases q)) hc2
              exact globalise_is B' (deref_flat hc' (by decide) (by decide)) hc' (by decide)
            case blk =>
              intro H' B' hh' hk
              have hfn := hk _ _ (fun q => by have := b2.pfn; rw [q, hcl2] at this; have h3 := g6.pfn; rw [q, ncl] at h3; cases h3) b2.pfn
              have hks := b2.pks _ (List.mem_of_getElem? g1)
              have hks' := hk _ _ (Hp.ne_of hks hcl2 (fun q => by cases q)) hks
              refine (block_f B' hh' (by omega) hq0 (arity_is B' hfn (by omega) (by have := (List.getElem?_eq_some_iff.mp g1).1; omega) (by rw [Int.toNat_natCast, List.getElem?_map, g1]; rfl) hks')).mono ?_
              rintro r H'' ⟨m, fd, v, rfl, e1, e2, e3, e4⟩
              exact ⟨m, [.ref fd], [v], rfl, e1, rfl, rfl, e3, e4, fun H3 o3 => ⟨fd, rfl, o3 _ _ (by simp; exact Hp.ne_of e2 e3 (fun q => by cases q)) e2⟩⟩
            case post =>
              rintro r H' ⟨m, ps, rfl, e1, e2, e3, e4, fd, rfl, e5⟩
              have o3 : Off [hp] H1 H' := by
                intro b o hb eb
                refine e4 b o ?_ (le2 _ _ eb)
                simp only [List.mem_cons, List.not_mem_nil, or_false, not_or] at hb ⊢
                exact ⟨hb, Hp.none_ne ncl eb⟩
              have hps : hs <+: hs ++ ([.ref fd] ++ [c0].map SV.ref) := List.prefix_append _ _
              refine ⟨m, _, T', F', rfl, W1.next (o3.more (by simp)) hps List.prefix_rfl e3 (g6.offHp o3 hh1 W.pn1 W.pn2), .g (p := hs.length) (q := q) (fd := fd) (x := c0) (by omega) e1 (by simp) e5 g1 gT (by simp) (e4 _ _ (by simp; exact ⟨Hp.ne_of hc2 hh2 (fun q => by cases q), Hp.ne_of hc2 hcl2 (fun q => by cases q)⟩) hc2), hps, g4, g2, by simp, g5, g3, o1.trans (o3.more (by simp))⟩
        · obtain rfl : lv = 8 := by omega
          wtm_at "q_st"
          wtm_at "q_st"
          wtm_at "q_st"
          wtm_at "q_st"
          wtm_at "q_st"
          wtm_at "q_st"
          wtm_at "q_st"
          wtm_at "q_st"
          refine' Ex.retK (Ev.methK (d' := 50) (KA := fun us H' => ∃ T' q c0 c1 cl H1, us = [.int 0, .ref cl] ∧ T'[q]? = some sB ∧ T <+: T' ∧ T'.length ≤ T.length + 1 ∧ BookI H1 tx an fn nn T' F ∧ Off [tx, an] H H1 ∧ H1 c0 = none ∧ (H1.set c0 (cellO 4 ((q : Nat) : Int))) c1 = none ∧ ((H1.set c0 (cellO 4 ((q : Nat) : Int))).set c1 (cellO 0 1)) cl = none ∧ H' = ((H1.set c0 (cellO 4 ((q : Nat) : Int))).set c1 (cellO 0 1)).set cl (.lst [.ref c0, .ref c1])) ?o B.st B.sx rfl cm_380_new_struct (EvL.consK (K1 := fun v H' => v = .int 0 ∧ H' = H) ?e0 ?k2) ?s (by decide))
          case o => wtm_at "q_ev"
          case e0 => wtm_at "q_ev"
          case k2 =>
            rintro v H1 ⟨rfl, rfl⟩
            refine EvL.consK (Ev.listK (KA := fun us H' => ∃ T' q c0 c1 H1', us = [.ref c0, .ref c1] ∧ T'[q]? = some sB ∧ T <+: T' ∧ T'.length ≤ T.length + 1 ∧ BookI H1' tx an fn nn T' F ∧ Off [tx, an] H1 H1' ∧ H1' c0 = none ∧ (H1'.set c0 (cellO 4 ((q : Nat) : Int))) c1 = none ∧ H' = (H1'.set c0 (cellO 4 ((q : Nat) : Int))).set c1 (cellO 0 1))
              (K := fun v H' => ∃ T' q c0 c1 cl H1', v = .ref cl ∧ T'[q]? = some sB ∧ T <+: T' ∧ T'.length ≤ T.length + 1 ∧ BookI H1' tx an fn nn T' F ∧ Off [tx, an] H1 H1' ∧ H1' c0 = none ∧ (H1'.set c0 (cellO 4 ((q : Nat) : Int))) c1 = none ∧ ((H1'.set c0 (cellO 4 ((q : Nat) : Int))).set c1 (cellO 0 1)) cl = none ∧ H' = ((H1'.set c0 (cellO 4 ((q : Nat) : Int))).set c1 (cellO 0 1)).set cl (.lst [.ref c0, .ref c1]))
              (EvL.consK (Ev.tupK (KA := fun us H' => ∃ T' q, us = [.int 4, .int ((q : Nat) : Int)] ∧ T'[q]? = some sB ∧ T <+: T' ∧ T'.length ≤ T.length + 1 ∧ BookI H' tx an fn nn T' F ∧ Off [tx, an] H1 H')
                (K := fun v H' => ∃ T' q c0 H1', v = .ref c0 ∧ T'[q]? = some sB ∧ T <+: T' ∧ T'.length ≤ T.length + 1 ∧ BookI H1' tx an fn nn T' F ∧ Off [tx, an] H1 H1' ∧ H1' c0 = none ∧ H' = H1'.set c0 (cellO 4 ((q : Nat) : Int)))
                (EvL.consK (K1 := fun v H' => v = .int 4 ∧ H' = H1) ?e ?r) ?tk) ?n) ?l) ?m
            case e => wtm_at "q_ev"
            case r =>
              rintro v H2 ⟨rfl, rfl⟩
              refine EvL.consK (Ev.meth (d' := 60) (vs := [.str sB]) ?o B.bk B.bx rfl cm_154_atom (EvL.cons Ev.str EvL.nil) (atom_is B.bk B.bx hbi (by omega)) (by decide)) ?m2
              case o => wtm_at "q_ev"
              case m2 =>
                rintro v H3 ⟨T', q, rfl, g1, g2, g3, g4, g5, _⟩
                exact EvL.nilK ⟨T', q, rfl, g1, g2, g3, g4, g5⟩
            case tk =>
              rintro us H2 ⟨T', q, rfl, g1, g2, g3, g4, g5⟩
              exact ⟨by simp, fun c0 hc0 => ⟨T', q, c0, H2, rfl, g1, g2, g3, g4, g5, hc0, rfl⟩⟩
            case n =>
              rintro v H2 ⟨T', q, c0, H1', rfl, g1, g2, g3, g4, g5, hc0, rfl⟩
              refine EvL.consK (Ev.tup (vs := [.int 0, .int 1]) ?t1 (by simp)) ?n1
              case t1 => wtm_at "q_ev"
              case n1 =>
                rintro v H3 ⟨c1, rfl, hc1, rfl⟩
                exact EvL.nilK ⟨T', q, c0, c1, H1', rfl, g1, g2, g3, g4, g5, hc0, hc1, rfl⟩
            case l =>
              rintro us H2 ⟨T', q, c0, c1, H1', rfl, g1, g2, g3, g4, g5, hc0, hc1, rfl⟩
              exact ⟨by simp, fun cl hcl => ⟨T', q, c0, c1, cl, H1', rfl, g1, g2, g3, g4, g5, hc0, hc1, hcl, rfl⟩⟩
            case m =>
              rintro v H2 ⟨T', q, c0, c1, cl, H1', rfl, g1, g2, g3, g4, g5, hc0, hc1, hcl, rfl⟩
              exact EvL.nilK ⟨T', q, c0, c1, cl, H1', rfl, g1, g2, g3, g4, g5, hc0, hc1, hcl, rfl⟩
          case s =>
            rintro us H2 ⟨T', q, c0, c1, cl, H1, rfl, g1, g2, g3, g4, g5, hc0, hc1, hcl, rfl⟩
            have o1 : Off [hp, tx, an, fn, nn] H H1 := g5.more (by simp)
            have hh1 : H1 hp = some (.lst hs) := g5 _ _ (by simp; exact ⟨W.pn1, Hp.ne_of hhp hbi.pan (fun q => by cases q)⟩) hhp
            have le1 : Hle H1 ((H1.set c0 (cellO 4 ((q : Nat) : Int))).set c1 (cellO 0 1)) := (Hle.rfl.new hc0).new hc1
            have le2 : Hle H1 (((H1.set c0 (cellO 4 ((q : Nat) : Int))).set c1 (cellO 0 1)).set cl (.lst [.ref c0, .ref c1])) := le1.new hcl
            have hcl2 : (((H1.set c0 (cellO 4 ((q : Nat) : Int))).set c1 (cellO 0 1)).set cl (.lst [.ref c0, .ref c1])) cl = some (.lst ([c0, c1].map SV.ref)) := Hp.set_eq
            have hc02 : (((H1.set c0 (cellO 4 ((q : Nat) : Int))).set c1 (cellO 0 1)).set cl (.lst [.ref c0, .ref c1])) c0 = some (cellO 4 ((q : Nat) : Int)) := Hp.set_new hcl (Hp.set_new hc1 Hp.set_eq)
            have hc12 : (((H1.set c0 (cellO 4 ((q : Nat) : Int))).set c1 (cellO 0 1)).set cl (.lst [.ref c0, .ref c1])) c1 = some (cellO 0 1) := Hp.set_new hcl Hp.set_eq
            have ncl : H1 cl = none := le1.none hcl
            have W1 : Wd H1 st sx hp sk tr bk bx tx an fn nn hs T' F d0 d1 := W.next o1 List.prefix_rfl List.prefix_rfl hh1 g4
            have B2 := W1.pB.le le2
            have hh2 := le2 _ _ hh1
            have hd2 := le2 _ _ W1.pe3
            generalize ((H1.set c0 (cellO 4 ((q : Nat) : Int))).set c1 (cellO 0 1)).set cl (.lst [.ref c0, .ref c1]) = H2 at le2 hcl2 hc02 hc12 B2 hh2 hd2 ⊢
            have clh : cl ≠ hp := Hp.ne_none ncl hh1
            refine (struct_is (cs := [c0, c1]) (t := 3) (n := 0) (PS := fun ps H' => ps = []) B2 hh2 (by omega) hcl2 clh (by simp) (by simp) ?gl (by simp) ?blk).mono ?post
            case gl =>
              intro c hc H' B' hh' hk
              simp only [List.mem_cons, List.not_mem_nil, or_false] at hc
              rcases hc with rfl | rfl
              · have hc' := hk _ _ (Hp.ne_of hc02 hcl2 (fun q => by cases q)) hc02
                exact globalise_is B' (deref_flat hc' (by decide) (by decide)) hc' (by decide)
              · have hc' := hk _ _ (Hp.ne_of hc12 hcl2 (fun q => by cases q)) hc12
                have hd' := hk _ _ (Hp.ne_of hd2 hcl2 (fun q => by cases q)) hd2
                have := deref_ref (w := w) (q := 1) B' hh' hc' (by decide) (by decide) W.pe2 hd' (by decide) (by decide) W.pe2 hd'
                rw [if_pos rfl] at this
                exact globalise_is B' this hc' (by decide)
            case blk =>
              intro H' B' hh' hk
              refine (block_dot B' hh' (by omega)).mono ?_
              rintro r H'' ⟨m, vs, rfl, e1, e2, e3, e4⟩
              exact ⟨m, [], vs, rfl, e1, e2, rfl, e3, e4, fun _ _ => rfl⟩
            case post =>
              rintro r H' ⟨m, ps, rfl, e1, e2, e3, e4, rfl⟩
              have o3 : Off [hp] H1 H' := by
                intro b o hb eb
                refine e4 b o ?_ (le2 _ _ eb)
                simp only [List.mem_cons, List.not_mem_nil, or_false, not_or] at hb ⊢
                exact ⟨hb, Hp.none_ne ncl eb⟩
              have hps : hs <+: hs ++ ([] ++ [c0, c1].map SV.ref) := List.prefix_append _ _
              refine ⟨m, _, T', F, rfl, W1.next (o3.more (by simp)) hps List.prefix_rfl e3 (g4.offHp o3 hh1 W.pn1 W.pn2), .lst (p := hs.length) (q := q) (x := c0) (y := c1) e1 (by simp) (e4 _ _ (by simp; exact ⟨Hp.ne_of hc02 hh2 (fun q => by cases q), Hp.ne_of hc02 hcl2 (fun q => by cases q)⟩) hc02) g1 (by simp) (e4 _ _ (by simp; exact ⟨Hp.ne_of hc12 hh2 (fun q => by cases q), Hp.ne_of hc12 hcl2 (fun q => by cases q)⟩) hc12), hps, g2, List.prefix_rfl, by simp, g3, by omega, o1.trans (o3.more (by simp))⟩
end
section
-- T12
noncomputable def rk (lv : Int) : Int := if lv < 2 then 0 else if lv < 4 then 1 else if lv < 6 then 2 else 3
theorem rk_mono {a b : Int} (h : a ≤ b) : rk a ≤ rk b := by
  unfold rk
  (repeat' split) <;> omega
theorem cmpZ_lt {a b : Int} (h : a < b) : cmpZ a b = -1 := if_pos h
theorem cmpZ_gt {a b : Int} (h : b < a) : cmpZ a b = 1 := (if_neg (by omega)).trans (if_pos h)
theorem cmpZ_rk {a b : Int} (h : rk a ≠ rk b) : cmpZ (rk a) (rk b) = cmpZ a b := by
  rcases Int.lt_trichotomy a b with q | q | q
  · have := rk_mono (Int.le_of_lt q)
    rw [cmpZ_lt q, cmpZ_lt (by omega)]
  · exact absurd (congrArg rk q) h
  · have := rk_mono (Int.le_of_lt q)
    rw [cmpZ_gt q, cmpZ_gt (by omega)]
theorem nodup_get {α : Type} {l : List α} (h : l.Nodup) {i j : Nat} {x : α} (hi : l[i]? = some x) (hj : l[j]? = some x) : i = j := nodup_at h hi hj
/-- what a key comes to, dereferenced -/
theorem Key.deref {w : World} {H : Hp} {st sx hp sk tr bk bx tx an fn nn : Addr} {hs : List SV} {T : List Str} {F : List (Addr × Int × Int)} {d0 d1 : Addr} (W : Wd H st sx hp sk tr bk bx tx an fn nn hs T F d0 d1) (hz : hs.length ≤ 10000) {low gap lv : Int} {c : Addr} (k : Key H hs T F low gap lv c) :
    ∃ d t n, (∀ H', Hle H H' → SpP w 60 229 [.ref st, .ref c] H' (.ref d)) ∧ H d = some (cellO t n) ∧ rankZ t = rk lv ∧
      ((t = 0 ∧ n = lv ∧ (lv = 0 ∨ lv = 1)) ∨ (lv = 2 ∧ t = 5 ∧ n = low) ∨ (lv = 3 ∧ t = 5 ∧ n = low + gap) ∨ (lv = 4 ∧ t = 4 ∧ ∃ q : Nat, n = (q : Int) ∧ T[q]? = some sB) ∨ (lv = 5 ∧ t = 4 ∧ ∃ q : Nat, n = (q : Int) ∧ T[q]? = some sBA) ∨
        ((lv = 6 ∨ lv = 7) ∧ t = 2 ∧ ∃ (p q a : Nat) (fd x k : Addr), n = (p : Int) ∧ hs[p]? = some (.ref fd) ∧ H fd = some (cellO 6 (q : Int)) ∧ F[q]? = some (k, (a : Int), 1) ∧ T[a]? = some sG ∧ hs[p + 1]? = some (.ref x) ∧ H x = some (cellO 5 lv)) ∨
        (lv = 8 ∧ t = 3 ∧ ∃ (p q : Nat) (x y : Addr), n = (p : Int) ∧ hs[p]? = some (.ref x) ∧ H x = some (cellO 4 (q : Int)) ∧ T[q]? = some sB ∧ hs[p + 1]? = some (.ref y) ∧ H y = some (cellO 0 1))) := by
  have flat : ∀ {t n : Int}, H c = some (cellO t n) → ¬ t = 0 → ¬ t = 1 → ∀ H', Hle H H' → SpP w 60 229 [.ref st, .ref c] H' (.ref c) := fun h a b H' l => deref_flat (l _ _ h) a b
  cases k with
  | ref a b p d e =>
    rename_i p e0
    refine ⟨e0, 0, lv, fun H' l => ?_, e, by rcases a with rfl | rfl <;> rfl, .inl ⟨rfl, rfl, a⟩⟩
    have hp := (List.getElem?_eq_some_iff.mp d).1
    rcases a with rfl | rfl
    · have := deref_ref (w := w) (q := 0) (W.pB.le l) (l _ _ W.php) (l _ _ b) (by omega) (by omega) (by rw [Int.toNat_natCast]; exact d) (l _ _ e) (by decide) (by decide) W.pe0 (l _ _ W.pe1)
      rw [if_neg (by omega)] at this
      exact this
    · have := deref_ref (w := w) (q := 1) (W.pB.le l) (l _ _ W.php) (l _ _ b) (by omega) (by omega) (by rw [Int.toNat_natCast]; exact d) (l _ _ e) (by decide) (by decide) W.pe2 (l _ _ W.pe3)
      rw [if_neg (by omega)] at this
      exact this
  | int2 a => exact ⟨c, 5, low, flat a (by decide) (by decide), a, rfl, .inr (.inl ⟨rfl, rfl, rfl⟩)⟩
  | int3 a => exact ⟨c, 5, low + gap, flat a (by decide) (by decide), a, rfl, .inr (.inr (.inl ⟨rfl, rfl, rfl⟩))⟩
  | con4 a b => exact ⟨c, 4, _, flat a (by decide) (by decide), a, rfl, .inr (.inr (.inr (.inl ⟨rfl, rfl, _, rfl, b⟩)))⟩
  | con5 a b => exact ⟨c, 4, _, flat a (by decide) (by decide), a, rfl, .inr (.inr (.inr (.inr (.inl ⟨rfl, rfl, _, rfl, b⟩))))⟩
  | g a b c1 d e f g h => exact ⟨c, 2, _, flat b (by decide) (by decide), b, by rcases a with rfl | rfl <;> rfl, .inr (.inr (.inr (.inr (.inr (.inl ⟨a, rfl, _, _, _, _, _, _, rfl, c1, d, e, f, g, h⟩)))))⟩
  | lst a b c1 d e f => exact ⟨c, 3, _, flat a (by decide) (by decide), a, rfl, .inr (.inr (.inr (.inr (.inr (.inr ⟨rfl, rfl, _, _, _, _, rfl, b, c1, d, e, f⟩)))))⟩
theorem flat_same {w : World} {H : Hp} {st a b d1 d2 : Addr} {t k t' k' z : Int} (h1 : ∀ H', Hle H H' → SpP w 60 229 [.ref st, .ref a] H' (.ref d1)) (h2 : ∀ H', Hle H H' → SpP w 60 229 [.ref st, .ref b] H' (.ref d2)) (e1 : H d1 = some (cellO t k)) (e2 : H d2 = some (cellO t' k')) (ht : t = t') (hk : k = k') (hz : z = 0) : Flat2 w H st a b z :=
  ⟨d1, d2, t, k, t', k', h1, h2, e1, e2, .inl ⟨⟨ht, hk⟩, hz⟩⟩
theorem flat_diff {w : World} {H : Hp} {st a b d1 d2 : Addr} {t k t' k' z : Int} (h1 : ∀ H', Hle H H' → SpP w 60 229 [.ref st, .ref a] H' (.ref d1)) (h2 : ∀ H', Hle H H' → SpP w 60 229 [.ref st, .ref b] H' (.ref d2)) (e1 : H d1 = some (cellO t k)) (e2 : H d2 = some (cellO t' k')) (hne : ¬ (t = t' ∧ k = k')) (hz : ¬ z = 0) (h : ∀ H', Hle H H' → SpP w 50 445 [.ref st, .ref d1, .ref d2] H' (.int z)) : Flat2 w H st a b z :=
  ⟨d1, d2, t, k, t', k', h1, h2, e1, e2, .inr ⟨hne, hz, h⟩⟩
theorem key_cmp {w : World} {H : Hp} {st sx hp sk tr bk bx tx an fn nn : Addr} {hs : List SV} {T : List Str} {F : List (Addr × Int × Int)} {d0 d1 : Addr} (W : Wd H st sx hp sk tr bk bx tx an fn nn hs T F d0 d1) (hz : hs.length ≤ 10000) (hT : T.length ≤ 10000) (hF : F.length ≤ 10000) {low gap lv lv' : Int} (hg : 1 ≤ gap) {c c' : Addr} (k1 : Key H hs T F low gap lv c) (k2 : Key H hs T F low gap lv' c') :
    Flat2 w H st c c' (cmpZ lv lv') ∨ Deep2 w H st hp c c' (cmpZ lv lv') := by
  obtain ⟨d, t, n, hd, e, hr, hc⟩ := k1.deref (w := w) W hz
  obtain ⟨d', t', n', hd', e', hr', hc'⟩ := k2.deref (w := w) W hz
  have B := W.pB
  have hhp := W.php
  have bi := W.pbi
  by_cases hrk : rk lv = rk lv'
  case neg =>
    refine .inl (flat_diff hd hd' e e' (fun h => hrk (by rw [← hr, ← hr', h.1])) ?_ fun H' l => ?_)
    · rw [← cmpZ_rk hrk]; exact fun q => hrk (cmpZ_z.1 q)
    · have := tops_rank (w := w) (st := st) (l _ _ e) (l _ _ e') (by rw [hr, hr']; exact fun q => hrk (cmpZ_z.1 q))
      rw [hr, hr', cmpZ_rk hrk] at this
      exact this
  case pos =>
    have hlt : ∀ {q : Nat} {x : Str}, T[q]? = some x → q < 10000 := fun h => Nat.lt_of_lt_of_le (List.getElem?_eq_some_iff.mp h).1 hT
    have gT : ∀ {q : Nat} {x : Str}, T[q]? = some x → (T.map SV.str)[((q : Nat) : Int).toNat]? = some (.str x) := fun h => by rw [Int.toNat_natCast, List.getElem?_map, h]; rfl
    have hh : ∀ {q : Nat} {x : SV}, hs[q]? = some x → q < 10000 := fun h => Nat.lt_of_lt_of_le (List.getElem?_eq_some_iff.mp h).1 hz
    have gh : ∀ {q : Nat} {x : SV}, hs[q]? = some x → hs[((q : Nat) : Int).toNat]? = some x := fun h => by rw [Int.toNat_natCast]; exact h
    have ari : ∀ {q : Nat} {k : Addr} {a m : Int}, F[q]? = some (k, a, m) → ∀ H', Hle H H' → SpP w 75 123 [.ref bk, .int (q : Int)] H' (.int m) := fun {q k a m} h H' l => by
      have := bi.pks _ (List.mem_of_getElem? h)
      exact arity_is (B.le l) (l _ _ bi.pfn) (by omega) (by have := (List.getElem?_eq_some_iff.mp h).1; omega) (by rw [Int.toNat_natCast, List.getElem?_map, h]; rfl) (l _ _ this)
    obtain ⟨kd, ad, hF0⟩ := W.pf0
    have gF : ∀ {q q' : Nat} {k k' : Addr} {p : Int × Int}, F[q]? = some (k, p) → F[q']? = some (k', p) → q = q' := fun {q q' k k' p} h h' => by
      refine nodup_get bi.pnf (x := p) ?_ ?_ <;> rw [List.getElem?_map] <;> simp [h, h']
    have bad : ∀ {P : Prop}, (rk lv = rk lv' → False) → P := fun h => (h hrk).elim
    have cz : ∀ x : Int, cmpZ x x = 0 := fun x => by unfold cmpZ; simp
    have dz : ∀ {x y : Int}, ¬ x = y → ¬ cmpZ x y = 0 := fun {x y} h q => h (cmpZ_z.1 q)
    have fx : ∀ {x : Addr} {t n : Int}, H x = some (cellO t n) → ¬ t = 0 → ¬ t = 1 → ∀ H', Hle H H' → SpP w 60 229 [.ref st, .ref x] H' (.ref x) := fun h a b H' l => deref_flat (l _ _ h) a b
    rcases hc with ⟨rfl, rfl, hl⟩ | ⟨hl, rfl, rfl⟩ | ⟨hl, rfl, rfl⟩ | ⟨hl, rfl, q, rfl, hq⟩ | ⟨hl, rfl, q, rfl, hq⟩ | ⟨hl, rfl, p, q, a, fd, x, k, rfl, g1, g2, g3, g4, g5, g6⟩ | ⟨hl, rfl, p, q, x, y, rfl, g1, g2, g3, g4, g5⟩ <;>
    rcases hc' with ⟨rfl, rfl, hl'⟩ | ⟨hl', rfl, rfl⟩ | ⟨hl', rfl, rfl⟩ | ⟨hl', rfl, q', rfl, hq'⟩ | ⟨hl', rfl, q', rfl, hq'⟩ | ⟨hl', rfl, p', q', a', fd', x', k', rfl, g1', g2', g3', g4', g5', g6'⟩ | ⟨hl', rfl, p', q', x', y', rfl, g1', g2', g3', g4', g5'⟩ <;>
    first | exact absurd (hr.trans (hrk.trans hr'.symm)) (by decide) | skip
    all_goals clear hrk bad hr hr'
    · -- two references
      by_cases h : n = n'
      · exact .inl (flat_same hd hd' e e' rfl h (by rw [h]; exact cz _))
      · exact .inl (flat_diff hd hd' e e' (fun q => h q.2) (dz h) fun H' l => tops_ref (l _ _ e) (l _ _ e') h)
    · subst hl; subst hl'; exact .inl (flat_same hd hd' e e' rfl rfl (cz _))
    · subst hl; subst hl'
      have ez : cmpZ n (n + gap) = cmpZ 2 3 := (cmpZ_lt (by omega)).trans (cmpZ_lt (by decide)).symm
      exact .inl (flat_diff hd hd' e e' (fun q => by omega) (dz (by decide)) fun H' l => ez ▸ tops_int (l _ _ e) (l _ _ e'))
    · subst hl; subst hl'
      have ez : cmpZ (n' + gap) n' = cmpZ 3 2 := (cmpZ_gt (by omega)).trans (cmpZ_gt (by decide)).symm
      exact .inl (flat_diff hd hd' e e' (fun q => by omega) (dz (by decide)) fun H' l => ez ▸ tops_int (l _ _ e) (l _ _ e'))
    · subst hl; subst hl'; exact .inl (flat_same hd hd' e e' rfl rfl (cz _))
    · subst hl; subst hl'
      exact .inl (flat_same hd hd' e e' rfl (by rw [nodup_get bi.pnd hq hq']) (cz _))
    · subst hl; subst hl'
      have ez : cmpZS sB sBA = cmpZ 4 5 := by decide
      refine .inl (flat_diff hd hd' e e' (fun h => ?_) (dz (by decide)) fun H' l => ez ▸ tops_con (B.le l) (l _ _ e) (l _ _ e') (l _ _ bi.ptx) (by omega) (by have := hlt hq; omega) (gT hq) (by omega) (by have := hlt hq'; omega) (gT hq'))
      have : q = q' := by omega
      subst this
      rw [hq] at hq'
      exact absurd hq' (by decide)
    · subst hl; subst hl'
      have ez : cmpZS sBA sB = cmpZ 5 4 := by decide
      refine .inl (flat_diff hd hd' e e' (fun h => ?_) (dz (by decide)) fun H' l => ez ▸ tops_con (B.le l) (l _ _ e) (l _ _ e') (l _ _ bi.ptx) (by omega) (by have := hlt hq; omega) (gT hq) (by omega) (by have := hlt hq'; omega) (gT hq'))
      have : q = q' := by omega
      subst this
      rw [hq] at hq'
      exact absurd hq' (by decide)
    · subst hl; subst hl'
      exact .inl (flat_same hd hd' e e' rfl (by rw [nodup_get bi.pnd hq hq']) (cz _))
    · -- two compounds
      by_cases hp : p = p'
      · subst hp
        rw [g5] at g5'
        cases g5'
        rw [g6] at g6'
        cases g6'
        exact .inl (flat_same hd hd' e e' rfl rfl (cz _))
      · obtain rfl : a = a' := nodup_get bi.pnd g4 g4'
        obtain rfl : q = q' := gF g3 g3'
        have hpp := hh g5
        have hpp' := hh g5'
        have hq1 := (List.getElem?_eq_some_iff.mp g3).1
        refine .inr ⟨d, d', 2, p, 2, p', 1, ((p + 1 : Nat) : Int), ((p' + 1 : Nat) : Int), fun _ => x, fun _ => x', hs, hd, hd', e, e', fun h => hp (by omega), fun H' l => ?_, .inl rfl, hhp, by omega, fun H' l => ?_, by decide, by simp, by simp, by omega, by omega, by omega, by omega, fun j hj => ?_, fun j hj => ?_, ?_⟩
        · exact tops_cmp (l _ _ e) (l _ _ e') rfl rfl (shapes_eq (B.le l) (functor_str (B.le l) (l _ _ hhp) (l _ _ e) (by omega) (by omega) (gh g1) (l _ _ g2)) (functor_str (B.le l) (l _ _ hhp) (l _ _ e') (by omega) (by omega) (gh g1') (l _ _ g2')))
        · exact width_str (B.le l) (l _ _ hhp) (l _ _ e) (by omega) (by omega) (gh g1) (l _ _ bi.pfn) (by omega) (by omega) (by rw [Int.toNat_natCast, List.getElem?_map, g3]; rfl) (l _ _ (bi.pks _ (List.mem_of_getElem? g3))) (l _ _ g2)
        · have : j = 0 := by omega
          subst this
          rw [show (((p + 1 : Nat) : Int) + ((0 : Nat) : Int)).toNat = p + 1 from by omega]
          exact g5
        · have : j = 0 := by omega
          subst this
          rw [show (((p' + 1 : Nat) : Int) + ((0 : Nat) : Int)).toNat = p' + 1 from by omega]
          exact g5'
        · show Res w H st (cmpZ lv lv') ([] ++ [(x, x')])
          by_cases h : lv = lv'
          · subst h
            exact .same (flat_same (fx g6 (by decide) (by decide)) (fx g6' (by decide) (by decide)) g6 g6' rfl rfl rfl) (.nil (cz _))
          · exact .diff (flat_diff (fx g6 (by decide) (by decide)) (fx g6' (by decide) (by decide)) g6 g6' (fun q => h q.2) (dz h) fun H' l => tops_int (l _ _ g6) (l _ _ g6')) (dz h)
    · -- a compound, a list cell
      subst hl'
      have hne : ¬ ((q : Nat) : Int) = 0 := by
        intro h
        have h0 : q = 0 := by omega
        subst h0
        rw [g3] at hF0
        cases hF0
      have ez : cmpZ 1 2 = cmpZ lv 8 := by rcases hl with rfl | rfl <;> decide
      have hpp := hh g5
      have a0 : ∀ H', Hle H H' → SpP w 75 123 [.ref bk, .int 0] H' (.int 2) := fun H' l => by simpa using ari hF0 H' l
      exact .inl (flat_diff hd hd' e e' (fun h => by omega) (by rw [← ez]; decide) fun H' l => ez ▸ tops_cmp (l _ _ e) (l _ _ e') rfl rfl (shapes_ne (B.le l) (functor_str (B.le l) (l _ _ hhp) (l _ _ e) (by omega) (by omega) (gh g1) (l _ _ g2)) (functor_lis (l _ _ e')) hne (ari g3 H' l) (a0 H' l) (by decide)))
    · -- a list cell, a compound
      subst hl
      have hne : ¬ (0 : Int) = ((q' : Nat) : Int) := by
        intro h
        have h0 : q' = 0 := by omega
        subst h0
        rw [g3'] at hF0
        cases hF0
      have ez : cmpZ 2 1 = cmpZ 8 lv' := by rcases hl' with rfl | rfl <;> decide
      have hpp := hh g5'
      have a0 : ∀ H', Hle H H' → SpP w 75 123 [.ref bk, .int 0] H' (.int 2) := fun H' l => by simpa using ari hF0 H' l
      exact .inl (flat_diff hd hd' e e' (fun h => by omega) (by rw [← ez]; decide) fun H' l => ez ▸ tops_cmp (l _ _ e) (l _ _ e') rfl rfl (shapes_ne (B.le l) (functor_lis (l _ _ e)) (functor_str (B.le l) (l _ _ hhp) (l _ _ e') (by omega) (by omega) (gh g1') (l _ _ g2')) hne (a0 H' l) (ari g3' H' l) (by decide)))
    · -- two list cells
      subst hl; subst hl'
      obtain rfl : q = q' := nodup_get bi.pnd g3 g3'
      have hpp := hh g4
      have hpp' := hh g4'
      by_cases hp : p = p'
      · exact .inl (flat_same hd hd' e e' rfl (by rw [hp]) (cz _))
      · refine .inr ⟨d, d', 3, p, 3, p', 2, p, p', fun j => if j = 0 then x else y, fun j => if j = 0 then x' else y', hs, hd, hd', e, e', fun h => hp (by omega), fun H' l => ?_, .inr rfl, hhp, by omega, fun H' l => width_lis (l _ _ e), by decide, by simp, by simp, by omega, by omega, by omega, by omega, fun j hj => ?_, fun j hj => ?_, ?_⟩
        · exact tops_cmp (l _ _ e) (l _ _ e') rfl rfl (shapes_eq (B.le l) (functor_lis (l _ _ e)) (functor_lis (l _ _ e')))
        · rcases (show j = 0 ∨ j = 1 by omega) with rfl | rfl
          · rw [show ((p : Int) + ((0 : Nat) : Int)).toNat = p from by omega]; exact g1
          · rw [show ((p : Int) + ((1 : Nat) : Int)).toNat = p + 1 from by omega]; exact g4
        · rcases (show j = 0 ∨ j = 1 by omega) with rfl | rfl
          · rw [show ((p' : Int) + ((0 : Nat) : Int)).toNat = p' from by omega]; exact g1'
          · rw [show ((p' : Int) + ((1 : Nat) : Int)).toNat = p' + 1 from by omega]; exact g4'
        · show Res w H st (cmpZ 8 8) (([] ++ [(y, y')]) ++ [(x, x')])
          have dy : ∀ {y : Addr}, H y = some (cellO 0 1) → ∀ H', Hle H H' → SpP w 60 229 [.ref st, .ref y] H' (.ref y) := fun {y} h H' l => by
            have := deref_ref (w := w) (q := 1) (B.le l) (l _ _ hhp) (l _ _ h) (by decide) (by decide) W.pe2 (l _ _ W.pe3) (by decide) (by decide) W.pe2 (l _ _ W.pe3)
            rw [if_pos rfl] at this
            exact this
          exact .same (flat_same (fx g2 (by decide) (by decide)) (fx g2' (by decide) (by decide)) g2 g2' rfl rfl rfl) (.same (flat_same (dy g5) (dy g5') g5 g5' rfl rfl rfl) (.nil (cz _)))
end
section
-- T13
noncomputable abbrev lawSc : Scope := { kind := .function, names := [(Str.ofString "script", .local), (Str.ofString "urn", .local), (Str.ofString "book", .local), (Str.ofString "cells", .local), (Str.ofString "low", .local), (Str.ofString "gap", .local), (Str.ofString "keys", .local), (Str.ofString "levels", .cell), (Str.ofString "runs", .local), (Str.ofString "strict", .local), (Str.ofString "turn", .local), (Str.ofString "level", .local), (Str.ofString "step", .local), (Str.ofString "more", .local), (Str.ofString "index", .local), (Str.ofString "before", .local), (Str.ofString "unique", .local), (Str.ofString "a", .local), (Str.ofString "b", .local), (Str.ofString "c", .local), (Str.ofString "due", .local), (Str.ofString "forth", .local), (Str.ofString "back", .local), (Str.ofString "Symbols", .globalImplicit), (Str.ofString "Store", .globalImplicit), (Str.ofString "_law_pick", .globalImplicit), (Str.ofString "range", .globalImplicit), (Str.ofString "len", .globalImplicit), (Str.ofString "_law_key", .globalImplicit), (Str.ofString "list", .globalImplicit), (Str.ofString "sorted", .globalImplicit), (Str.ofString "merge", .globalImplicit)], isGenerator := false, isCoroutine := false, more := [(Str.ofString "fast", .str (Str.ofString "script")), (Str.ofString "fast", .str (Str.ofString "urn")), (Str.ofString "fast", .str (Str.ofString "book")), (Str.ofString "fast", .str (Str.ofString "cells")), (Str.ofString "fast", .str (Str.ofString "low")), (Str.ofString "fast", .str (Str.ofString "gap")), (Str.ofString "fast", .str (Str.ofString "keys")), (Str.ofString "fast", .str (Str.ofString "levels")), (Str.ofString "fast", .str (Str.ofString "runs")), (Str.ofString "fast", .str (Str.ofString "strict")), (Str.ofString "fast", .str (Str.ofString "turn")), (Str.ofString "fast", .str (Str.ofString "level")), (Str.ofString "fast", .str (Str.ofString "step")), (Str.ofString "fast", .str (Str.ofString "more")), (Str.ofString "fast", .str (Str.ofString "index")), (Str.ofString "fast", .str (Str.ofString "run")), (Str.ofString "fast", .str (Str.ofString "before")), (Str.ofString "fast", .str (Str.ofString "unique")), (Str.ofString "fast", .str (Str.ofString "a")), (Str.ofString "fast", .str (Str.ofString "b")), (Str.ofString "fast", .str (Str.ofString "c")), (Str.ofString "fast", .str (Str.ofString "due")), (Str.ofString "fast", .str (Str.ofString "forth")), (Str.ofString "fast", .str (Str.ofString "back"))] }
noncomputable abbrev FL (fa : Addr) (cd : Value) (ca : Addr) : FI := ⟨Str.ofString "law", lawSc, fa, cd, [Str.ofString "script", Str.ofString "urn", Str.ofString "book", Str.ofString "cells", Str.ofString "low", Str.ofString "gap", Str.ofString "keys", Str.ofString "runs", Str.ofString "strict", Str.ofString "turn", Str.ofString "level", Str.ofString "step", Str.ofString "more", Str.ofString "index", Str.ofString "before", Str.ofString "unique", Str.ofString "a", Str.ofString "b", Str.ofString "c", Str.ofString "due", Str.ofString "forth", Str.ofString "back"], [(Str.ofString "levels", ca)]⟩
theorem FL.good {fa : Addr} {cd : Value} {ca : Addr} : (FL fa cd ca).Good := ⟨rfl, by show List.Nodup [Str.ofString "script", Str.ofString "urn", Str.ofString "book", Str.ofString "cells", Str.ofString "low", Str.ofString "gap", Str.ofString "keys", Str.ofString "runs", Str.ofString "strict", Str.ofString "turn", Str.ofString "level", Str.ofString "step", Str.ofString "more", Str.ofString "index", Str.ofString "before", Str.ofString "unique", Str.ofString "a", Str.ofString "b", Str.ofString "c", Str.ofString "due", Str.ofString "forth", Str.ofString "back"]; decide, by show ∀ x ∈ [Str.ofString "script", Str.ofString "urn", Str.ofString "book", Str.ofString "cells", Str.ofString "low", Str.ofString "gap", Str.ofString "keys", Str.ofString "runs", Str.ofString "strict", Str.ofString "turn", Str.ofString "level", Str.ofString "step", Str.ofString "more", Str.ofString "index", Str.ofString "before", Str.ofString "unique", Str.ofString "a", Str.ofString "b", Str.ofString "c", Str.ofString "due", Str.ofString "forth", Str.ofString "back"], lawSc.names.lookup x = some .local ∧ (x == ("__debug__" : Str)) = false; decide⟩
/-- addresses of the store and the book -/
structure AD where
  st : Addr
  sx : Addr
  hp : Addr
  sk : Addr
  tr : Addr
  bk : Addr
  bx : Addr
  tx : Addr
  an : Addr
  fn : Addr
  nn : Addr
  d0 : Addr
  d1 : Addr
noncomputable abbrev AD.X (A : AD) : List Addr := [A.hp, A.tx, A.an, A.fn, A.nn]
noncomputable abbrev AD.W (A : AD) (H : Hp) (hs : List SV) (T : List Str) (F : List (Addr × Int × Int)) : Prop := Wd H A.st A.sx A.hp A.sk A.tr A.bk A.bx A.tx A.an A.fn A.nn hs T F A.d0 A.d1
/-- objects of one's own, apart from each other and from the store's -/
structure Own (H : Hp) (X : List Addr) (l : List (Addr × SO)) : Prop where
  at' : ∀ p ∈ l, H p.1 = some p.2
  nd : (l.map (·.1)).Nodup
  off : ∀ p ∈ l, p.1 ∉ X
theorem Own.keep {H H' : Hp} {X : List Addr} {l : List (Addr × SO)} (h : Own H X l) (o : Off X H H') : Own H' X l := ⟨fun p hp => o _ _ (h.off p hp) (h.at' p hp), h.nd, h.off⟩
theorem Own.put {H : Hp} {X : List Addr} (pre post : List (Addr × SO)) {a : Addr} {o o' : SO} (h : Own H X (pre ++ (a, o) :: post)) : Own (H.set a o') X (pre ++ (a, o') :: post) := by
  have e : (pre ++ (a, o') :: post).map (·.1) = (pre ++ (a, o) :: post).map (·.1) := by simp
  have nd := h.nd
  rw [List.map_append, List.map_cons] at nd
  obtain ⟨_, n2, n3⟩ := List.nodup_append.1 nd
  have n4 := (List.nodup_cons.1 n2).1
  refine ⟨fun p hp => ?_, e ▸ h.nd, fun p hp => ?_⟩
  · rcases List.mem_append.1 hp with hp | hp
    · exact Hp.set_ne (fun q => n3 p.1 (List.mem_map.2 ⟨p, hp, rfl⟩) a List.mem_cons_self q) (h.at' p (List.mem_append_left _ hp))
    · rcases List.mem_cons.1 hp with rfl | hp
      · exact Hp.set_eq
      · exact Hp.set_ne (fun q => n4 (List.mem_map.2 ⟨p, hp, q⟩)) (h.at' p (List.mem_append_right _ (List.mem_cons_of_mem _ hp)))
  · rcases List.mem_append.1 hp with hp | hp
    · exact h.off p (List.mem_append_left _ hp)
    · rcases List.mem_cons.1 hp with rfl | hp
      · exact h.off (a, o) (List.mem_append_right _ List.mem_cons_self)
      · exact h.off p (List.mem_append_right _ (List.mem_cons_of_mem _ hp))
theorem Own.newAt {H : Hp} {X : List Addr} (pre post : List (Addr × SO)) {a : Addr} {o : SO} (h : Own H X (pre ++ post)) (ha : H a = none) (hx : a ∉ X) : Own (H.set a o) X (pre ++ (a, o) :: post) := by
  have hne : ∀ p ∈ pre ++ post, p.1 ≠ a := fun p hp q => by have := h.at' p hp; rw [q, ha] at this; cases this
  refine ⟨fun p hp => ?_, ?_, fun p hp => ?_⟩
  · rcases List.mem_append.1 hp with hp | hp
    · have hp' := List.mem_append_left post hp
      exact Hp.set_ne (hne p hp') (h.at' p hp')
    · rcases List.mem_cons.1 hp with rfl | hp
      · exact Hp.set_eq
      · have hp' := List.mem_append_right pre hp
        exact Hp.set_ne (hne p hp') (h.at' p hp')
  · have nd := h.nd
    rw [List.map_append] at nd ⊢
    rw [List.map_cons]
    obtain ⟨n1, n2, n3⟩ := List.nodup_append.1 nd
    refine List.nodup_append.2 ⟨n1, List.nodup_cons.2 ⟨fun q => ?_, n2⟩, fun x hx1 y hy => ?_⟩
    · obtain ⟨p, hp, e⟩ := List.mem_map.1 q
      exact hne p (List.mem_append_right _ hp) e
    · rcases List.mem_cons.1 hy with rfl | hy
      · obtain ⟨p, hp, e⟩ := List.mem_map.1 hx1
        exact fun q => hne p (List.mem_append_left _ hp) (e.trans q)
      · exact n3 x hx1 y hy
  · rcases List.mem_append.1 hp with hp | hp
    · exact h.off p (List.mem_append_left _ hp)
    · rcases List.mem_cons.1 hp with rfl | hp
      · exact hx
      · exact h.off p (List.mem_append_right _ hp)
theorem Wd.le {H H' : Hp} {st sx hp sk tr bk bx tx an fn nn : Addr} {hs : List SV} {T : List Str} {F : List (Addr × Int × Int)} {d0 d1 : Addr} (W : Wd H st sx hp sk tr bk bx tx an fn nn hs T F d0 d1) (h : Hle H H') : Wd H' st sx hp sk tr bk bx tx an fn nn hs T F d0 d1 :=
  ⟨W.pB.le h, h _ _ W.php, W.pbi.le h, W.pn1, W.pn2, W.pe0, h _ _ W.pe1, W.pe2, h _ _ W.pe3, W.pf0⟩
theorem Wd.known {H : Hp} {st sx hp sk tr bk bx tx an fn nn : Addr} {hs : List SV} {T : List Str} {F : List (Addr × Int × Int)} {d0 d1 : Addr} (W : Wd H st sx hp sk tr bk bx tx an fn nn hs T F d0 d1) {a : Addr} (ha : H a = none) : a ∉ [hp, tx, an, fn, nn] := by
  simp only [List.mem_cons, List.not_mem_nil, or_false, not_or]
  exact ⟨Hp.ne_none ha W.php, Hp.ne_none ha W.pbi.ptx, Hp.ne_none ha W.pbi.pan, Hp.ne_none ha W.pbi.pfn, Hp.ne_none ha W.pbi.pnn⟩
/-- an object that the store does not hold -/
noncomputable def Mine' (o : SO) : Prop := (∀ vs, o ≠ .tup vs) ∧ (∀ C d, o ≠ .inst C d) ∧ ∀ es, o ≠ .attrs es
theorem Mine'.lst {vs : List SV} : Mine' (.lst vs) := ⟨nofun, nofun, nofun⟩
theorem Mine'.cell {v : SV} : Mine' (.cell v) := ⟨nofun, nofun, nofun⟩
theorem Wd.put {H : Hp} {st sx hp sk tr bk bx tx an fn nn : Addr} {hs : List SV} {T : List Str} {F : List (Addr × Int × Int)} {d0 d1 : Addr} (W : Wd H st sx hp sk tr bk bx tx an fn nn hs T F d0 d1) {a : Addr} {o o' : SO} (ha : H a = some o) (hn : a ∉ [hp, tx, an, fn, nn]) (ho : Mine' o) : Wd (H.set a o') st sx hp sk tr bk bx tx an fn nn hs T F d0 d1 := by
  simp only [List.mem_cons, List.not_mem_nil, or_false, not_or] at hn
  obtain ⟨n1, n2, n3, n4, n5⟩ := hn
  have hof : Off [a] H (H.set a o') := Off.rfl.set (by simp)
  have k : ∀ {b : Addr} {r : SO}, H b = some r → r ≠ o → (H.set a o') b = some r := fun {b r} hb hr => Hp.set_ne (Hp.ne_of hb ha hr) hb
  refine ⟨W.pB.upd (Hp.ne_of ha W.pB.st (ho.2.1 _ _)) (Hp.ne_of ha W.pB.sx (ho.2.2 _)) (Hp.ne_of ha W.pB.bk (ho.2.1 _ _)) (Hp.ne_of ha W.pB.bx (ho.2.2 _)), Hp.set_ne (Ne.symm n1) W.php,
    W.pbi.off hof (by simp; exact Ne.symm n2) (by simp; exact Ne.symm n3) (by simp; exact Ne.symm n4) (by simp; exact Ne.symm n5) (fun p hp' => by simp; exact Hp.ne_of (W.pbi.pks p hp') ha (fun q => ho.1 _ q.symm)),
    W.pn1, W.pn2, W.pe0, k W.pe1 (fun q => ho.1 _ q.symm), W.pe2, k W.pe3 (fun q => ho.1 _ q.symm), W.pf0⟩
/-- the store with its keys -/
structure WK (A : AD) (H : Hp) (low gap : Int) (hs : List SV) (T : List Str) (F : List (Addr × Int × Int)) (kv : List Addr) (lv : List Int) : Prop where
  wd : A.W H hs T F
  zh : hs.length ≤ 100 + 2 * lv.length
  zT : T.length ≤ 200 + lv.length
  zF : F.length ≤ 200 + lv.length
  zk : kv.length = lv.length
  ky : ∀ (i : Nat) c z, kv[i]? = some c → lv[i]? = some z → Key H hs T F low gap z c
theorem pre_rfl {α : Type} (l : List α) : l <+: l := ⟨[], List.append_nil l⟩
theorem WK.le {A : AD} {H H' : Hp} {low gap : Int} {hs : List SV} {T : List Str} {F : List (Addr × Int × Int)} {kv : List Addr} {lv : List Int} (h : WK A H low gap hs T F kv lv) (l : Hle H H') : WK A H' low gap hs T F kv lv :=
  ⟨h.wd.le l, h.zh, h.zT, h.zF, h.zk, fun i c z h1 h2 => (h.ky i c z h1 h2).mono (fun a t k e => l _ _ e) (pre_rfl _) (pre_rfl _) (pre_rfl _)⟩
theorem WK.put {A : AD} {H : Hp} {low gap : Int} {hs : List SV} {T : List Str} {F : List (Addr × Int × Int)} {kv : List Addr} {lv : List Int} (h : WK A H low gap hs T F kv lv) {a : Addr} {o o' : SO} (ha : H a = some o) (hn : a ∉ A.X) (ho : Mine' o) : WK A (H.set a o') low gap hs T F kv lv :=
  ⟨h.wd.put ha hn ho, h.zh, h.zT, h.zF, h.zk, fun i c z h1 h2 => (h.ky i c z h1 h2).mono (fun b t k e => Hp.set_ne (Hp.ne_of e ha fun q => ho.1 _ q.symm) e) (pre_rfl _) (pre_rfl _) (pre_rfl _)⟩
theorem WK.new {A : AD} {H : Hp} {low gap : Int} {hs : List SV} {T : List Str} {F : List (Addr × Int × Int)} {kv : List Addr} {lv : List Int} (h : WK A H low gap hs T F kv lv) {a : Addr} {o : SO} (ha : H a = none) : WK A (H.set a o) low gap hs T F kv lv := h.le (Hle.rfl.new ha)
/-- one key more -/
theorem WK.key {A : AD} {H H' : Hp} {low gap : Int} {hs : List SV} {T : List Str} {F : List (Addr × Int × Int)} {kv : List Addr} {lv : List Int} {z : Int} {r : SV} (h : WK A H low gap hs T F kv lv)
    (k : KeyPost H A.st A.sx A.hp A.sk A.tr A.bk A.bx A.tx A.an A.fn A.nn hs T F A.d0 A.d1 low gap z r H') : ∃ c hs' T' F', r = .ref c ∧ WK A H' low gap hs' T' F' (kv ++ [c]) (lv ++ [z]) ∧ Off A.X H H' := by
  obtain ⟨c, hs', T', F', e, W', K', p1, p2, p3, q1, q2, q3, o⟩ := k
  refine ⟨c, hs', T', F', e, ⟨W', ?_, ?_, ?_, ?_, fun i c' z' h1 h2 => ?_⟩, o⟩
  · have := h.zh; simp; omega
  · have := h.zT; simp; omega
  · have := h.zF; simp; omega
  · have := h.zk; simp; omega
  · by_cases hi : i < kv.length
    · rw [List.getElem?_append_left hi] at h1
      rw [List.getElem?_append_left (by have := h.zk; omega)] at h2
      exact (h.ky i c' z' h1 h2).mono (fun a t k e => h.wd.cell o e) p1 p2 p3
    · have hi2 : i = kv.length := by
        have := (List.getElem?_eq_some_iff.1 h1).1
        simp at this; omega
      have hz := h.zk
      rw [List.getElem?_append_right (by omega), hi2, Nat.sub_self] at h1
      rw [List.getElem?_append_right (by omega), hi2, hz, Nat.sub_self] at h2
      simp at h1 h2
      subst h1; subst h2
      exact K'
theorem Own.h0 {H : Hp} {X : List Addr} {a : Addr} {o : SO} {l : List (Addr × SO)} (h : Own H X ((a, o) :: l)) : H a = some o := h.at' (a, o) List.mem_cons_self
theorem Own.o0 {H : Hp} {X : List Addr} {a : Addr} {o : SO} {l : List (Addr × SO)} (h : Own H X ((a, o) :: l)) : a ∉ X := h.off (a, o) List.mem_cons_self
theorem Own.tl {H : Hp} {X : List Addr} {p : Addr × SO} {l : List (Addr × SO)} (h : Own H X (p :: l)) : Own H X l := ⟨fun q hq => h.at' q (List.mem_cons_of_mem _ hq), by have := h.nd; rw [List.map_cons, List.nodup_cons] at this; exact this.2, fun q hq => h.off q (List.mem_cons_of_mem _ hq)⟩
noncomputable def forBody : Stmt → List Stmt
  | .For _ _ b _ _ => b
  | _ => []
noncomputable def lawBody : List Stmt := fdBody (stAt PW 36)
noncomputable def lawTurn : List Stmt := forBody (nthS lawBody 11)
noncomputable def lawStep : List Stmt := forBody (nthS lawTurn 3)
noncomputable def lawCheck : List Stmt := forBody (nthS lawBody 13)
noncomputable def lawDue : List Stmt := forBody (nthS lawCheck 2)
end
section
-- T14
theorem map_ref_len {kv : List Addr} : (kv.map SV.ref).length = kv.length := List.length_map ..
theorem intL_snoc (ns : List Int) (z : Int) : intL (ns ++ [z]) = .lst (ns.map SV.int ++ [.int z]) := by unfold intL; rw [List.map_append]; rfl
theorem step_is {w : World} {fa : Addr} {cd : Value} {ca : Addr} {A : AD} {H : Hp} {un sc kl ll ra sa rl sl : Addr} {R : List (Addr × SO)} {u k low gap L : Int} {ns : List Int} {hs : List SV} {T : List Str} {F : List (Addr × Int × Int)} {kv : List Addr} {lv : List Int} {rv sv : List SV} {P : List PT} {is js : List Int} {t i : Nat} {v0 v11 v12 v13 : SV}
    (ow : Own H A.X ((un, urnO u sc k) :: (kl, .lst (kv.map SV.ref)) :: (ca, .cell (.ref ll)) :: (ll, intL lv) :: (rl, .lst rv) :: (sl, .lst sv) :: (sc, intL ns) :: (ra, intL is) :: (sa, intL js) :: R))
    (hr : rv[t]? = some (.ref ra)) (hs' : sv[t]? = some (.ref sa)) (ht : t < 3) (wk : WK A H low gap hs T F kv lv) (k0 : 0 ≤ k) (k1 : k ≤ 100) (hz : ns.length ≤ 100) (hi : i < 4) (pu : PureIn lv P is js L i) (hn : lv.length ≤ 12) :
    Ex w 10 (FL fa cd ca) [v0, .ref un, .ref A.bk, .ref A.st, .int low, .int gap, .ref kl, .ref rl, .ref sl, .int t, .int L, v11, v12, v13, .unb, .unb, .unb, .unb, .unb, .unb, .unb, .unb] H lawStep
      (fun fl N' H' => ∃ u' k' z hs' T' F' c v12' v13' js', fl = .next ∧ N' = [v0, .ref un, .ref A.bk, .ref A.st, .int low, .int gap, .ref kl, .ref rl, .ref sl, .int t, .int z, v11, v12', v13', .unb, .unb, .unb, .unb, .unb, .unb, .unb, .unb] ∧
        Own H' A.X ((un, urnO u' sc k') :: (kl, .lst ((kv ++ [c]).map SV.ref)) :: (ca, .cell (.ref ll)) :: (ll, intL (lv ++ [z])) :: (rl, .lst rv) :: (sl, .lst sv) :: (sc, intL ns) :: (ra, intL (is ++ [(lv.length : Int)])) :: (sa, intL js') :: R) ∧
        WK A H' low gap hs' T' F' (kv ++ [c]) (lv ++ [z]) ∧ 0 ≤ k' ∧ k' ≤ 100 ∧ PureIn (lv ++ [z]) P (is ++ [(lv.length : Int)]) js' z (i + 1)) := by
  with_unfolding_all show Ex _ _ _ (_ :: _) _ (_ :: _) _
  have h_un := ow.h0
  have h_sc := ow.tl.tl.tl.tl.tl.tl.h0
  have hpk := pick_is (w := w) (fc := 5) h_un h_sc hz k0 k1 (by decide) (by decide)
  refine Ex.assignK (by wtm_at "q_ev") (by wtm_at "q_vat") ?_
  rintro v H1 ⟨z, u', k', rfl, z0, z5, k0', k1', e⟩
  have ow1 := ow.put [] _ (o' := urnO u' sc k')
  have wk1 := wk.put (o' := urnO u' sc k') h_un ow.o0 Mine'.lst
  rw [← e] at ow1 wk1
  clear e h_un h_sc ow wk k0 k1
  replace ow1 : Own H1 A.X ((un, urnO u' sc k') :: (kl, .lst (kv.map SV.ref)) :: (ca, .cell (.ref ll)) :: (ll, intL lv) :: (rl, .lst rv) :: (sl, .lst sv) :: (sc, intL ns) :: (ra, intL is) :: (sa, intL js) :: R) := ow1
  obtain ⟨L', e1, e2⟩ : ∃ L', (L + z < 9 → L' = L + z) ∧ (¬ L + z < 9 → L' = 8) := ⟨if L + z < 9 then L + z else 8, fun h => if_pos h, fun h => if_neg h⟩
  have hL0 : L ≤ L' := by have := pu.l8; by_cases q : L + z < 9; (rw [e1 q]; omega); (rw [e2 q]; omega)
  have hL8 : L' ≤ 8 := by by_cases q : L + z < 9; (rw [e1 q]; omega); (rw [e2 q]; omega)
  refine Ex.assign (v := .int L') ?_ (by wtm_at "q_vat") ?_
  · refine Ev.ifx (c0 := decide (L + z < 9)) (by wtm_at "q_ev") (fun q => ?_) (fun q => ?_)
    · rw [e1 (of_decide_eq_true q)]; wtm_at "q_ev"
    · rw [e2 (of_decide_eq_false q)]; wtm_at "q_ev"
  have h_kl := ow1.tl.h0
  have h_ca := ow1.tl.tl.h0
  have h_ll := ow1.tl.tl.tl.h0
  have h_rl := ow1.tl.tl.tl.tl.h0
  have h_sl := ow1.tl.tl.tl.tl.tl.h0
  have h_ra := ow1.tl.tl.tl.tl.tl.tl.tl.h0
  have h_sa := ow1.tl.tl.tl.tl.tl.tl.tl.tl.h0
  have zk := wk1.zk
  have hkn : ((kv.map SV.ref).length : Int) = (lv.length : Int) := by rw [map_ref_len, zk]
  have hil := pu.ln
  have hjl := pu.lj
  refine Ex.assign (v := .int (lv.length : Int)) ?_ (by wtm_at "q_vat") ?_
  · rw [← hkn]; wtm_at "q_ev"
  have hrt : rv[((t : Nat) : Int).toNat]? = some (.ref ra) := by simpa using hr
  have hst : sv[((t : Nat) : Int).toNat]? = some (.ref sa) := by simpa using hs'
  have body : ∀ js' H2, PureIn (lv ++ [L']) P (is ++ [(lv.length : Int)]) js' L' (i + 1) → Own H2 A.X ((un, urnO u' sc k') :: (kl, .lst (kv.map SV.ref)) :: (ca, .cell (.ref ll)) :: (ll, intL lv) :: (rl, .lst rv) :: (sl, .lst sv) :: (sc, intL ns) :: (ra, intL is) :: (sa, intL js') :: R) → WK A H2 low gap hs T F kv lv →
      Ex w 10 (FL fa cd ca) [v0, .ref un, .ref A.bk, .ref A.st, .int low, .int gap, .ref kl, .ref rl, .ref sl, .int t, .int L', v11, .int z, .int (lv.length : Int), .unb, .unb, .unb, .unb, .unb, .unb, .unb, .unb] H2 (lawStep.drop 4)
      (fun fl N' H' => ∃ u' k' z hs' T' F' c v12' v13' js', fl = .next ∧ N' = [v0, .ref un, .ref A.bk, .ref A.st, .int low, .int gap, .ref kl, .ref rl, .ref sl, .int t, .int z, v11, v12', v13', .unb, .unb, .unb, .unb, .unb, .unb, .unb, .unb] ∧
        Own H' A.X ((un, urnO u' sc k') :: (kl, .lst ((kv ++ [c]).map SV.ref)) :: (ca, .cell (.ref ll)) :: (ll, intL (lv ++ [z])) :: (rl, .lst rv) :: (sl, .lst sv) :: (sc, intL ns) :: (ra, intL (is ++ [(lv.length : Int)])) :: (sa, intL js') :: R) ∧
        WK A H' low gap hs' T' F' (kv ++ [c]) (lv ++ [z]) ∧ 0 ≤ k' ∧ k' ≤ 100 ∧ PureIn (lv ++ [z]) P (is ++ [(lv.length : Int)]) js' z (i + 1)) := by
    clear ow1 wk1 h_kl h_ca h_ll h_rl h_sl h_ra h_sa hs' hr
    intro js' H2 pu2 ow2 wk2
    with_unfolding_all show Ex _ _ _ (_ :: _) _ (_ :: _) _
    have h_ra := ow2.tl.tl.tl.tl.tl.tl.tl.h0
    have h_rl := ow2.tl.tl.tl.tl.h0
    refine Ex.appP (v := .int (lv.length : Int)) (vs := is.map SV.int) (by wtm_at "q_ev") h_ra (by wtm_at "q_ev") (by rw [List.length_map]; omega) ?_
    have ow3 := ow2.put [_, _, _, _, _, _, _] _ (o' := .lst (is.map SV.int ++ [.int (lv.length : Int)]))
    have wk3 := wk2.put (o' := .lst (is.map SV.int ++ [.int (lv.length : Int)])) h_ra ow2.tl.tl.tl.tl.tl.tl.tl.o0 Mine'.lst
    generalize H2.set ra _ = H3 at ow3 wk3 ⊢
    replace ow3 : Own H3 A.X ((un, urnO u' sc k') :: (kl, .lst (kv.map SV.ref)) :: (ca, .cell (.ref ll)) :: (ll, intL lv) :: (rl, .lst rv) :: (sl, .lst sv) :: (sc, intL ns) :: (ra, intL (is ++ [(lv.length : Int)])) :: (sa, intL js') :: R) := by rw [intL_snoc]; exact ow3
    clear h_ra h_rl ow2 wk2 H2
    have h_ca := ow3.tl.tl.h0
    have h_ll := ow3.tl.tl.tl.h0
    refine Ex.appP (v := .int L') (vs := lv.map SV.int) (Ev.cell rfl h_ca nofun rfl (by decide)) h_ll (by wtm_at "q_ev") (by rw [List.length_map]; omega) ?_
    have ow4 := ow3.put [_, _, _] _ (o' := .lst (lv.map SV.int ++ [.int L']))
    have wk4 := wk3.put (o' := .lst (lv.map SV.int ++ [.int L'])) h_ll ow3.tl.tl.tl.o0 Mine'.lst
    generalize H3.set ll _ = H4 at ow4 wk4 ⊢
    replace ow4 : Own H4 A.X ((un, urnO u' sc k') :: (kl, .lst (kv.map SV.ref)) :: (ca, .cell (.ref ll)) :: (ll, intL (lv ++ [L'])) :: (rl, .lst rv) :: (sl, .lst sv) :: (sc, intL ns) :: (ra, intL (is ++ [(lv.length : Int)])) :: (sa, intL js') :: R) := by rw [intL_snoc]; exact ow4
    clear h_ca h_ll ow3 wk3 H3
    have h_kl := ow4.tl.h0
    have hky := key_is (w := w) (low := low) (gap := gap) wk4.wd (by have := wk4.zh; omega) (by have := wk4.zT; omega) (by have := wk4.zF; omega) (by have := pu.l0; omega : 0 ≤ L') hL8
    refine Ex.app (vs0 := kv.map SV.ref) (by wtm_at "q_ev") h_kl (by wtm_at "q_ev") ?_
    intro v H5 hK
    obtain ⟨c, hs5, T5, F5, rfl, wk5, o5⟩ := wk4.key hK
    have ow5 := ow4.keep o5
    have h_kl := ow5.tl.h0
    refine ⟨_, h_kl, by rw [map_ref_len]; omega, ?_⟩
    have ow6 := ow5.put [_] _ (o' := .lst (kv.map SV.ref ++ [.ref c]))
    have wk6 := wk5.put (o' := .lst (kv.map SV.ref ++ [.ref c])) h_kl ow5.tl.o0 Mine'.lst
    generalize H5.set kl _ = H6 at ow6 wk6 ⊢
    refine Ex.nil ⟨u', k', L', hs5, T5, F5, c, .int z, .int (lv.length : Int), js', rfl, rfl, ?_, wk6, k0', k1', pu2⟩
    rw [List.map_append]
    exact ow6
  refine Ex.ite (b := ((((is.map SV.int).length : Nat) : Int) == 0 || decide (levF lv ((lv.length : Int) - 1) < L'))) ?_ (fun hb => ?_) (fun hb => ?_)
  · refine EvB.or2 (by wtm_at "q_ev") (fun q => ?_)
    have hne : is ≠ [] := fun r => by rw [r] at q; exact absurd q (by decide)
    have h1 : 1 ≤ lv.length := by
      have hcr := congrArg List.length pu.cr
      have : 0 < is.length := List.length_pos_iff.2 hne
      rw [List.length_append] at hcr
      unfold upTo at hcr
      rw [List.length_map, List.length_range] at hcr
      omega
    refine EvB.cmp (a := .int (levF lv ((lv.length : Int) - 1))) (b := .int L') ?_ (by wtm_at "q_ev") CmpR.lt
    refine Ev.itemL (a := ll) (k := (lv.length : Int) - 1) (Ev.cell rfl h_ca nofun rfl (by decide)) (by wtm_at "q_ev") h_ll (by omega) (by omega) ?_
    rw [List.getElem?_map, levF_get (by omega) (by omega)]; rfl
  · have hc : is = [] ∨ levF lv ((lv.length : Int) - 1) < L' := by
      rcases Bool.or_eq_true_iff.1 hb with q | q
      · left
        rw [List.length_map, beq_iff_eq] at q
        exact List.length_eq_zero_iff.1 (by omega)
      · right; exact of_decide_eq_true q
    refine Ex.appP (v := .int (lv.length : Int)) (vs := js.map SV.int) (by wtm_at "q_ev") h_sa (by wtm_at "q_ev") (by rw [List.length_map]; omega) ?_
    have ow3 := ow1.put [_, _, _, _, _, _, _, _] _ (o' := .lst (js.map SV.int ++ [.int (lv.length : Int)]))
    have wk3 := wk1.put (o' := .lst (js.map SV.int ++ [.int (lv.length : Int)])) h_sa ow1.tl.tl.tl.tl.tl.tl.tl.tl.o0 Mine'.lst
    generalize H1.set sa _ = H3 at ow3 wk3 ⊢
    refine Ex.nil ?_
    show Ex _ _ _ _ _ _ _
    exact body (js ++ [(lv.length : Int)]) H3 (pu.up hL0 hL8 hc) (by rw [intL_snoc]; exact ow3) wk3
  · have hq := Bool.or_eq_false_iff.1 hb
    have hne : is ≠ [] := fun r => by rw [r] at hq; exact absurd hq.1 (by decide)
    refine Ex.nil ?_
    show Ex _ _ _ _ _ _ _
    exact body js H1 (pu.stay hL0 hL8 hne (of_decide_eq_false hq.2)) ow1 wk1
end
section
-- T15
noncomputable abbrev lawN (A : AD) (un kl rl sl : Addr) (low gap : Int) (v0 v9 v10 v11 v12 v13 : SV) : List SV := [v0, .ref un, .ref A.bk, .ref A.st, .int low, .int gap, .ref kl, .ref rl, .ref sl, v9, v10, v11, v12, v13, .unb, .unb, .unb, .unb, .unb, .unb, .unb, .unb]
noncomputable abbrev runsO (P : List PT) : List (Addr × SO) := P.flatMap fun p => [(p.ra, intL p.is), (p.sa, intL p.js)]
noncomputable abbrev rlO (P : List PT) : List SV := (P.map fun p => SV.ref p.ra).reverse
noncomputable abbrev slO (P : List PT) : List SV := (P.map fun p => SV.ref p.sa).reverse
structure BSt (A : AD) (H : Hp) (un sc kl ca ll rl sl : Addr) (low gap : Int) (ns : List Int) (t : Nat) (u k : Int) (kv : List Addr) (lv : List Int) (P : List PT) (hs : List SV) (T : List Str) (F : List (Addr × Int × Int)) : Prop where
  ow : Own H A.X ((un, urnO u sc k) :: (kl, .lst (kv.map SV.ref)) :: (ca, .cell (.ref ll)) :: (ll, intL lv) :: (rl, .lst (rlO P)) :: (sl, .lst (slO P)) :: (sc, intL ns) :: runsO P)
  wk : WK A H low gap hs T F kv lv
  k0 : 0 ≤ k
  k1 : k ≤ 100
  pu : PureOk lv P
  pl : P.length = t
  ln : lv.length ≤ 4 * t
noncomputable def BJ (A : AD) (un sc kl ca ll rl sl : Addr) (low gap : Int) (ns : List Int) (v0 : SV) (t : Nat) (N : List SV) (H : Hp) : Prop :=
  ∃ v9 v10 v11 v12 v13 u k kv lv P hs T F, N = lawN A un kl rl sl low gap v0 v9 v10 v11 v12 v13 ∧ BSt A H un sc kl ca ll rl sl low gap ns t u k kv lv P hs T F
theorem range4 : ∀ n : Nat, n < 4 → Builtin.Range.small 0 (1 + (n : Int)) 1 = true ∧ Builtin.Range.rangeSize 0 (1 + (n : Int)) 1 = ((n + 1 : Nat) : Int) := by decide
theorem turn_is {w : World} {fa : Addr} {cd : Value} {ca : Addr} {A : AD} {H : Hp} {un sc kl ll rl sl : Addr} {u k low gap : Int} {ns : List Int} {hs : List SV} {T : List Str} {F : List (Addr × Int × Int)} {kv : List Addr} {lv : List Int} {P : List PT} {t : Nat} {v0 v10 v11 v12 v13 : SV}
    (B : BSt A H un sc kl ca ll rl sl low gap ns t u k kv lv P hs T F) (hz : ns.length ≤ 100) (ht : t < 3) :
    Ex w 10 (FL fa cd ca) (lawN A un kl rl sl low gap v0 (.int t) v10 v11 v12 v13) H lawTurn (fun fl N' H' => fl = .next ∧ BJ A un sc kl ca ll rl sl low gap ns v0 (t + 1) N' H') := by
  with_unfolding_all show Ex _ _ _ (_ :: _) _ (_ :: _) _
  obtain ⟨ow, wk, k0, k1, pu, pl, ln⟩ := B
  have zr : (rlO P).length = t := by rw [List.length_reverse, List.length_map, pl]
  have zs : (slO P).length = t := by rw [List.length_reverse, List.length_map, pl]
  have h_rl := ow.tl.tl.tl.tl.h0
  refine Ex.app (vs0 := rlO P) (by wtm_at "q_ev") h_rl (Ev.list .nil) ?_
  rintro v H1 ⟨ra, rfl, hna, e1⟩
  have ow1 := ow.newAt [_, _, _, _, _, _, _] _ (o := .lst []) hna (wk.wd.known hna)
  have wk1 := wk.new (o := .lst []) hna
  rw [← e1] at ow1 wk1
  replace ow1 : Own H1 A.X ((un, urnO u sc k) :: (kl, .lst (kv.map SV.ref)) :: (ca, .cell (.ref ll)) :: (ll, intL lv) :: (rl, .lst (rlO P)) :: (sl, .lst (slO P)) :: (sc, intL ns) :: (ra, intL []) :: runsO P) := ow1
  clear e1 ow wk h_rl hna
  have h_rl := ow1.tl.tl.tl.tl.h0
  refine ⟨_, h_rl, by rw [zr]; omega, ?_⟩
  have ow2 := ow1.put [_, _, _, _] _ (o' := .lst (rlO P ++ [.ref ra]))
  have wk2 := wk1.put (o' := .lst (rlO P ++ [.ref ra])) h_rl ow1.tl.tl.tl.tl.o0 Mine'.lst
  generalize H1.set rl _ = H2 at ow2 wk2 ⊢
  replace ow2 : Own H2 A.X ((un, urnO u sc k) :: (kl, .lst (kv.map SV.ref)) :: (ca, .cell (.ref ll)) :: (ll, intL lv) :: (rl, .lst (rlO P ++ [.ref ra])) :: (sl, .lst (slO P)) :: (sc, intL ns) :: (ra, intL []) :: runsO P) := ow2
  clear ow1 wk1 h_rl H1
  have h_sl := ow2.tl.tl.tl.tl.tl.h0
  refine Ex.app (vs0 := slO P) (by wtm_at "q_ev") h_sl (Ev.list .nil) ?_
  rintro v H3 ⟨sa, rfl, hna, e1⟩
  have ow3 := ow2.newAt [_, _, _, _, _, _, _, _] _ (o := .lst []) hna (wk2.wd.known hna)
  have wk3 := wk2.new (o := .lst []) hna
  rw [← e1] at ow3 wk3
  replace ow3 : Own H3 A.X ((un, urnO u sc k) :: (kl, .lst (kv.map SV.ref)) :: (ca, .cell (.ref ll)) :: (ll, intL lv) :: (rl, .lst (rlO P ++ [.ref ra])) :: (sl, .lst (slO P)) :: (sc, intL ns) :: (ra, intL []) :: (sa, intL []) :: runsO P) := ow3
  clear e1 ow2 wk2 h_sl hna
  have h_sl := ow3.tl.tl.tl.tl.tl.h0
  refine ⟨_, h_sl, by rw [zs]; omega, ?_⟩
  have ow4 := ow3.put [_, _, _, _, _] _ (o' := .lst (slO P ++ [.ref sa]))
  have wk4 := wk3.put (o' := .lst (slO P ++ [.ref sa])) h_sl ow3.tl.tl.tl.tl.tl.o0 Mine'.lst
  generalize H3.set sl _ = H4 at ow4 wk4 ⊢
  replace ow4 : Own H4 A.X ((un, urnO u sc k) :: (kl, .lst (kv.map SV.ref)) :: (ca, .cell (.ref ll)) :: (ll, intL lv) :: (rl, .lst (rlO P ++ [.ref ra])) :: (sl, .lst (slO P ++ [.ref sa])) :: (sc, intL ns) :: (ra, intL []) :: (sa, intL []) :: runsO P) := ow4
  clear ow3 wk3 h_sl H3 H2
  refine Ex.assign Ev.int (by wtm_at "q_vat") ?_
  have hpk := pick_is (w := w) (fc := 4) ow4.h0 ow4.tl.tl.tl.tl.tl.tl.h0 hz k0 k1 (by decide) (by decide)
  refine Ex.forRangeK (K1 := fun b H' => ∃ z u' k', b = 1 + z ∧ 0 ≤ z ∧ z < 4 ∧ 0 ≤ k' ∧ k' ≤ 100 ∧ H' = H4.set un (urnO u' sc k')) (RangeK.one rfl (K1 := fun v H' => ∃ z u' k', v = .int (1 + z) ∧ 0 ≤ z ∧ z < 4 ∧ 0 ≤ k' ∧ k' ≤ 100 ∧ H' = H4.set un (urnO u' sc k')) (Ev.addK Ev.int (by wtm_at "q_ev") ?_) ?_) (by wtm_at "q_vat") ?_
  · rintro v H' ⟨z, u', k', rfl, h⟩
    exact ⟨z, rfl, z, u', k', rfl, h⟩
  · rintro v H' ⟨z, u', k', rfl, h⟩
    exact ⟨1 + z, rfl, z, u', k', rfl, h⟩
  rintro b H5 ⟨z, u', k', rfl, z0, z4, k0', k1', e⟩
  have ow5 := ow4.put [] _ (o' := urnO u' sc k')
  have wk5 := wk4.put (o' := urnO u' sc k') ow4.h0 ow4.o0 Mine'.lst
  rw [← e] at ow5 wk5
  replace ow5 : Own H5 A.X ((un, urnO u' sc k') :: (kl, .lst (kv.map SV.ref)) :: (ca, .cell (.ref ll)) :: (ll, intL lv) :: (rl, .lst (rlO P ++ [.ref ra])) :: (sl, .lst (slO P ++ [.ref sa])) :: (sc, intL ns) :: (ra, intL []) :: (sa, intL []) :: runsO P) := ow5
  clear e ow4 wk4 hpk k0 k1
  obtain ⟨n, rfl⟩ : ∃ n : Nat, z = n := ⟨z.toNat, by omega⟩
  obtain ⟨r1, r2⟩ := range4 n (by omega)
  refine ⟨n + 1, fun i N H => ∃ L v11 v12 v13 u k kv lv hs T F is js, N = lawN A un kl rl sl low gap v0 (.int t) (.int L) v11 v12 v13 ∧
    Own H A.X ((un, urnO u sc k) :: (kl, .lst (kv.map SV.ref)) :: (ca, .cell (.ref ll)) :: (ll, intL lv) :: (rl, .lst (rlO P ++ [.ref ra])) :: (sl, .lst (slO P ++ [.ref sa])) :: (sc, intL ns) :: (ra, intL is) :: (sa, intL js) :: runsO P) ∧
    WK A H low gap hs T F kv lv ∧ 0 ≤ k ∧ k ≤ 100 ∧ PureIn lv P is js L i ∧ lv.length ≤ 4 * t + i, r1, r2, ⟨0, _, _, _, u', k', kv, lv, hs, T, F, [], [], rfl, ow5, wk5, k0', k1', pu.start, ln⟩, ?_, ?_⟩
  · rintro i N H hi ⟨L, v11, v12, v13, u, k, kv, lv, hs, T, F, is, js, rfl, ow, wk, k0, k1, pi, hl⟩
    refine (step_is (v11 := .int (0 + (i : Int) * 1)) ow (t := t) (by rw [List.getElem?_append_right (by omega), zr]; simp) (by rw [List.getElem?_append_right (by omega), zs]; simp) ht wk k0 k1 hz (by omega) pi (by omega)).mono ?_
    rintro fl N' H' ⟨u', k', z, hs', T', F', c, v12', v13', js', rfl, rfl, ow', wk', k0', k1', pi'⟩
    exact ⟨z, _, v12', v13', u', k', _, _, hs', T', F', _, js', rfl, ow', wk', k0', k1', pi', by rw [List.length_append]; simp; omega⟩
  · rintro N H ⟨L, v11, v12, v13, u, k, kv, lv, hs, T, F, is, js, rfl, ow, wk, k0, k1, pi, hl⟩
    refine Ex.nil ⟨rfl, _, _, _, _, _, u, k, kv, lv, ⟨ra, is, sa, js⟩ :: P, hs, T, F, rfl, ⟨?_, wk, k0, k1, pi.stop (by omega) (by omega) ra sa, by rw [List.length_cons, pl], by omega⟩⟩
    rw [rlO, slO, List.map_cons, List.map_cons, List.reverse_cons, List.reverse_cons]
    exact ow
end
section
-- T16
theorem mergeL_in {z : Int → Int → Int} {u : Bool} : ∀ (n : Nat) (as bs : List Int), as.length + bs.length ≤ n → (∀ x ∈ mergeL z u as bs, x ∈ as ∨ x ∈ bs) ∧ (mergeL z u as bs).length ≤ as.length + bs.length
  | 0, [], [], _ => by rw [mergeL]; simp
  | 0, _ :: _, _, h => by simp at h
  | 0, [], _ :: _, h => by simp at h
  | n + 1, [], bs, _ => by rw [mergeL]; exact ⟨fun x hx => .inr hx, by simp⟩
  | n + 1, a :: as, [], _ => by rw [mergeL]; exact ⟨fun x hx => .inl hx, by simp⟩
  | n + 1, a :: as, b :: bs, h => by
    simp only [List.length_cons] at h
    have q1 := mergeL_in (z := z) (u := u) n as bs (by omega)
    have q2 := mergeL_in (z := z) (u := u) n as (b :: bs) (by simp; omega)
    have q3 := mergeL_in (z := z) (u := u) n (a :: as) bs (by simp; omega)
    rw [mergeL]
    split
    · split
      · refine ⟨fun x hx => ?_, by have := q1.2; simp; omega⟩
        rcases List.mem_cons.1 hx with rfl | hx
        · exact .inl List.mem_cons_self
        · exact (q1.1 x hx).imp (List.mem_cons_of_mem _) (List.mem_cons_of_mem _)
      · refine ⟨fun x hx => ?_, by have := q2.2; simp at this ⊢; omega⟩
        rcases List.mem_cons.1 hx with rfl | hx
        · exact .inl List.mem_cons_self
        · exact (q2.1 x hx).imp (List.mem_cons_of_mem _) id
    · refine ⟨fun x hx => ?_, by have := q3.2; simp at this ⊢; omega⟩
      rcases List.mem_cons.1 hx with rfl | hx
      · exact .inr List.mem_cons_self
      · exact (q3.1 x hx).imp id (List.mem_cons_of_mem _)
noncomputable abbrev Bnd (lv : List Int) (l : List Int) : Prop := (∀ x ∈ l, 0 ≤ x ∧ x < lv.length) ∧ l.length ≤ 500
theorem Bnd.merge {lv : List Int} {z : Int → Int → Int} {u : Bool} {as bs : List Int} (h1 : Bnd lv as) (h2 : Bnd lv bs) (hz : as.length + bs.length ≤ 500) : Bnd lv (mergeL z u as bs) := by
  obtain ⟨q1, q2⟩ := mergeL_in (z := z) (u := u) _ as bs (Nat.le_refl _)
  exact ⟨fun x hx => (q1 x hx).elim (h1.1 x) (h2.1 x), by omega⟩
/-- what the checks go by -/
structure CkB (w : World) (A : AD) (Hb : Hp) (kl ca ll : Addr) (kv : List Addr) (lv : List Int) : Prop where
  hk : Hb kl = some (.lst (kv.map SV.ref))
  hc : Hb ca = some (.cell (.ref ll))
  hl : Hb ll = some (intL lv)
  zn : lv.length ≤ 12
  cmp : ∀ (x y : Int), 0 ≤ x → x < lv.length → 0 ≤ y → y < lv.length → ∃ cx cy, kv[x.toNat]? = some cx ∧ kv[y.toNat]? = some cy ∧ CmpI w Hb A.st cx cy (cmpZ (levF lv x) (levF lv y))
theorem CmpI.le {w : World} {H H' : Hp} {st a b : Addr} {z : Int} (h : CmpI w H st a b z) (l : Hle H H') : CmpI w H' st a b z := fun H2 l2 => h H2 (l.trans l2)
theorem mg_is {w : World} {A : AD} {Hb H : Hp} {kl ca ll la ra : Addr} {kv : List Addr} {lv ls rs : List Int} {u : Bool} (C : CkB w A Hb kl ca ll kv lv) (hle : Hle Hb H) (hl : H la = some (intL ls)) (hr : H ra = some (intL rs)) (bl : Bnd lv ls) (br : Bnd lv rs) :
    Sp w 30 459 [.ref A.st, .ref kl, .ref la, .ref ra, .bool u] H (fun v H' => ∃ mg, v = .ref mg ∧ H mg = none ∧ Hle H H' ∧ H' mg = some (intL (mergeL (zL (levF lv)) u ls rs))) := by
  refine merge_is (hle _ _ C.hk) hl hr (by have := bl.2; omega) (by have := br.2; omega) fun x hx y hy => ?_
  have hx := bl.1 x hx
  have hy := br.1 y hy
  have hz := C.zn
  obtain ⟨cx, cy, e1, e2, k⟩ := C.cmp x y hx.1 hx.2 hy.1 hy.2
  exact ⟨cx, cy, hx.1, by omega, hy.1, by omega, by rw [List.getElem?_map, e1]; rfl, by rw [List.getElem?_map, e2]; rfl, k.le hle⟩
section
variable {w : World} {d : Nat} {f : FI} {N : List SV} {H : Hp}
theorem EvL.consP {e : PySem.Expr} {es : List PySem.Expr} {v : SV} {K : List SV → Hp → Prop} (he : EvP w d f N H e v) (hes : EvL w d f N H es (fun vs H2 => K (v :: vs) H2)) (hm : ∀ env, starEach (e :: es) env = (false, eval e env) :: starEach es env := by intros; exact starEach_plain rfl) : EvL w d f N H (e :: es) K :=
  EvL.consK he (fun v' H1 k => by obtain ⟨rfl, rfl⟩ := k; exact hes) hm
end
noncomputable abbrev ckN (A : AD) (un kl rl sl : Addr) (low gap : Int) (v0 v9 v10 v11 v12 v13 v14 v15 v16 v17 v18 v19 v20 v21 : SV) : List SV := [v0, .ref un, .ref A.bk, .ref A.st, .int low, .int gap, .ref kl, .ref rl, .ref sl, v9, v10, v11, v12, v13, v14, v15, v16, v17, v18, v19, v20, v21]
noncomputable def callArg : PySem.Expr → PySem.Expr
  | .Call _ (e :: _) _ _ => e
  | e => e
noncomputable def forIt : Stmt → PySem.Expr
  | .For _ it _ _ _ => it
  | _ => .Constant .none 0 ⟨0, 0, 0, 0⟩
/-- the pairs of a heap -/
noncomputable def Trips (H : Hp) (lv : List Int) (ts : List Trip) : Prop := ∀ t ∈ ts, H t.1 = some (.tup [.int t.2.1, .int t.2.2]) ∧ t.2.1 = levF lv t.2.2
noncomputable def idx (ts : List Trip) : List Int := ts.map (·.2.2)
theorem EvC.mono {w : World} {d : Nat} {f : FI} {N : List SV} {H : Hp} {scope : Scope} {cl : List (Str × Addr)} {x : Str} {v : SV} {elt : PySem.Expr} {K K' : SV → Hp → Prop} (h : EvC w d f N H scope cl x v elt K) (k : ∀ z H2, K z H2 → K' z H2) : EvC w d f N H scope cl x v elt K' :=
  fun c s Q E C oC m m₂ y news ok hC hns hmx hy F Nw hN hH ret => h c s Q E C oC m m₂ y news ok hC hns hmx hy F Nw hN hH fun u z H' news' h' tk' hK => ret u z H' news' h' tk' (k _ _ hK)
theorem pairs_is {w : World} {fa : Addr} {cd : Value} {A : AD} {Hb H : Hp} {un kl ca ll rl sl a b c : Addr} {kv : List Addr} {lv la lb lc : List Int} {low gap : Int} {v0 v9 v10 v11 v12 v13 v14 v15 v19 v20 v21 : SV} (C : CkB w A Hb kl ca ll kv lv) (hle : Hle Hb H)
    (ha : H a = some (intL la)) (hb : H b = some (intL lb)) (hc : H c = some (intL lc)) (bs : ∀ x ∈ la ++ lb ++ lc, 0 ≤ x ∧ x < lv.length) (zs : (la ++ lb ++ lc).length ≤ 12) :
    Ev w 10 (FL fa cd ca) (ckN A un kl rl sl low gap v0 v9 v10 v11 v12 v13 v14 v15 (.ref a) (.ref b) (.ref c) v19 v20 v21) H (callArg (forIt (nthS lawCheck 2))) (fun v H' => ∃ D ts, v = .ref D ∧ H D = none ∧ Hle H H' ∧ H' D = some (.lst (ts.map fun t => SV.ref t.1)) ∧ Trips H' lv ts ∧ idx ts = la ++ lb ++ lc) := by
  with_unfolding_all show Ev _ _ _ (_ :: _) _ (PySem.Expr.ListComp _ _ _ _) _
  refine Ev.listComp (cl := [(Str.ofString "levels", ca)]) (K1 := fun v H1 => ∃ q, v = .ref q ∧ H q = none ∧ Hle H H1 ∧ H1 q = some (intL (la ++ lb ++ lc))) ?_ ?_ (fun c => by rfl) (by decide) rfl (by decide) rfl
  · refine EvM.cat (K1 := fun v H1 => ∃ q, v = .ref q ∧ H q = none ∧ Hle H H1 ∧ H1 q = some (intL (la ++ lb))) (K2 := fun v u H1 => u = .ref c ∧ ∃ q, v = .ref q ∧ H q = none ∧ Hle H H1 ∧ H1 q = some (intL (la ++ lb))) ?_ ?_ ?_
    · refine EvM.cat (K1 := fun v H1 => v = .ref a ∧ H1 = H) (K2 := fun v u H1 => v = .ref a ∧ u = .ref b ∧ H1 = H) (EvM.loc (by wtm_at "q_vat") rfl nofun) ?_ ?_
      · rintro v H1 ⟨rfl, rfl⟩
        intro c0 s Q E m news ok F Nw hN hH ret
        exact EvM.loc (v := .ref b) (by wtm_at "q_vat") rfl nofun c0 s Q E m news ok F Nw hN hH fun u z H' news' h' tk' k => ret u z H' news' h' tk' ⟨rfl, k.1, k.2⟩
      · rintro v u H2 ⟨rfl, rfl, rfl⟩
        refine ⟨a, b, _, _, rfl, rfl, ha, hb, by simp at zs ⊢; omega, fun D hD => ⟨D, rfl, hD, Hle.rfl.new hD, ?_⟩⟩
        rw [intL, List.map_append (l₁ := la)]; exact Hp.set_eq
    · rintro v H1 ⟨q, rfl, hq, h1, h2⟩
      intro c0 s Q E m news ok F Nw hN hH ret
      exact EvM.loc (v := .ref c) (by wtm_at "q_vat") rfl nofun c0 s Q E m news ok F Nw hN hH fun u z H' news' h' tk' k => ret u z H' news' h' tk' ⟨k.1, q, rfl, hq, k.2 ▸ h1, k.2 ▸ h2⟩
    · rintro v u H2 ⟨rfl, q, rfl, hq, h1, h2⟩
      refine ⟨q, c, _, _, rfl, rfl, h2, h1 _ _ hc, by simp at zs ⊢; omega, fun D hD => ⟨D, rfl, h1.none hD, h1.new hD, ?_⟩⟩
      rw [intL, List.map_append (l₁ := la ++ lb)]; exact Hp.set_eq
  · rintro v H1 ⟨q, rfl, hq, h1, h2⟩
    refine ⟨q, _, fun ys rem H' => ∃ (ts : List Trip) (rest : List Int), rem = rest.map SV.int ∧ ys = ts.map (fun t => SV.ref t.1) ∧ la ++ lb ++ lc = idx ts ++ rest ∧ Trips H' lv ts ∧ Hle H H', rfl, h2, by simp at zs ⊢; omega,
      ⟨[], la ++ lb ++ lc, rfl, rfl, rfl, (fun t ht => by cases ht), h1.to_del hq⟩, ?_, ?_⟩
    · rintro ys u r H' ⟨ts, rest, e1, rfl, e3, ht, hl⟩
      cases rest with
      | nil => cases e1
      | cons x rest =>
        cases e1
        have hx := bs x (by rw [e3]; simp)
        have hzn := C.zn
        refine EvC.mono (EvC.levels (vs := lv.map SV.int) (i := x) (z := levF lv x) (ca := ca) (la := ll) (fun _ _ => ⟨rfl, rfl⟩) (fun _ _ => ⟨rfl, rfl⟩) (by decide) (by decide) rfl (hl _ _ (hle _ _ C.hc)) (hl _ _ (hle _ _ C.hl)) hx.1 (by omega) (by rw [List.getElem?_map, levF_get hx.1 hx.2]; rfl)) fun z H2 k => ?_
        obtain ⟨D, rfl, hD, rfl⟩ := k
        refine ⟨ts ++ [(D, levF lv x, x)], rest, rfl, by simp, by rw [e3]; simp [idx], fun t ht' => ?_, hl.new hD⟩
        rcases List.mem_append.1 ht' with ht' | ht'
        · exact ⟨Hp.set_new hD (ht t ht').1, (ht t ht').2⟩
        · rw [List.mem_singleton.1 ht']; exact ⟨Hp.set_eq, rfl⟩
    · rintro ys H' ⟨ts, rest, e1, rfl, e3, ht, hl⟩ hqn D hD hne
      cases rest with
      | cons x r => cases e1
      | nil =>
        rw [List.append_nil] at e3
        have hl2 : Hle H (H'.set q (.lst ((la ++ lb ++ lc).map SV.int))) := hl.upd hq
        have hD2 : (H'.set q (.lst ((la ++ lb ++ lc).map SV.int))) D = none := Hp.set_ne hne hD
        refine ⟨D, ts, rfl, hl.none hD, hl2.new hD2, Hp.set_eq, fun t ht' => ⟨?_, (ht t ht').2⟩, e3.symm⟩
        have h3 := (ht t ht').1
        exact Hp.set_new hD2 (Hp.set_ne (fun q' => by rw [q', hqn] at h3; cases h3) h3)
end
section
-- T17
theorem idx_get {ts : List Trip} {i : Nat} (h : i < ts.length) : (idx ts)[i]? = some (tD ts i).2.2 := by
  unfold idx
  rw [List.getElem?_map]
  unfold tD
  rw [List.getD_eq_getElem?_getD, List.getElem?_eq_getElem h]; rfl
theorem sorted_is {w : World} {fa : Addr} {cd : Value} {A : AD} {Hb H : Hp} {un kl ca ll rl sl a b c : Addr} {kv : List Addr} {lv la lb lc : List Int} {low gap : Int} {v0 v9 v10 v11 v12 v13 v14 v15 v19 v20 v21 : SV} (C : CkB w A Hb kl ca ll kv lv) (hle : Hle Hb H)
    (ha : H a = some (intL la)) (hb : H b = some (intL lb)) (hc : H c = some (intL lc)) (bs : ∀ x ∈ la ++ lb ++ lc, 0 ≤ x ∧ x < lv.length) (zs : (la ++ lb ++ lc).length ≤ 12) (z2 : 2 ≤ (la ++ lb ++ lc).length) (hp : (la ++ lb ++ lc).Pairwise (· < ·)) :
    Ev w 10 (FL fa cd ca) (ckN A un kl rl sl low gap v0 v9 v10 v11 v12 v13 v14 v15 (.ref a) (.ref b) (.ref c) v19 v20 v21) H (forIt (nthS lawCheck 2)) (fun v H' => ∃ D ts, v = .ref D ∧ H D = none ∧ Hle H H' ∧ H' D = some (.lst (ts.map fun t => SV.ref t.1)) ∧ Trips H' lv ts ∧ (idx ts).Pairwise (ltp (levF lv)) ∧ (∀ x, x ∈ idx ts ↔ x ∈ la ++ lb ++ lc) ∧ ts.length ≤ 12) := by
  with_unfolding_all show Ev _ _ _ (_ :: _) _ (PySem.Expr.Call _ _ _ _) _
  refine Ev.sortedTup rfl (pairs_is C hle ha hb hc bs zs) ?_
  rintro v H1 ⟨q, ts, rfl, hn, hl, h1, ht, hi⟩
  have hlen : ts.length = (la ++ lb ++ lc).length := by rw [← hi]; unfold idx; rw [List.length_map]
  have hzn := C.zn
  refine ⟨q, ts, rfl, h1, fun t h => (ht t h).1, by omega, by omega, fun t h => ?_, fun i j h3 h4 e => ?_, fun D ts' hD hpm hs => ⟨D, ts', rfl, hl.none hD, hl.new hD, Hp.set_eq, fun t h => ?_, ?_, fun x => ?_, ?_⟩⟩
  · have := bs t.2.2 (by rw [← hi]; exact List.mem_map.2 ⟨t, h, rfl⟩)
    omega
  · have nd : (idx ts).Nodup := by rw [hi]; exact hp.imp fun {a b} q => by omega
    exact nodup_at nd (idx_get h3) (e ▸ idx_get h4)
  · have h2 := ht t (hpm.mem_iff.1 h)
    exact ⟨Hp.set_new hD h2.1, h2.2⟩
  · unfold idx
    rw [List.pairwise_map]
    refine pair_mem hs fun t h2 u h3 q => ?_
    rw [(ht t (hpm.mem_iff.1 h2)).2, (ht u (hpm.mem_iff.1 h3)).2] at q
    exact q
  · rw [← hi]; unfold idx
    exact (hpm.map (·.2.2)).mem_iff
  · rw [hpm.length_eq]; omega
theorem last_get {acc : List Int} (h : acc ≠ []) : (acc.map SV.int)[((-1 : Int) + ((acc.map SV.int).length : Int)).toNat]? = some (.int (acc.getLastD 0)) := by
  rcases List.eq_nil_or_concat acc with rfl | ⟨l, b, rfl⟩
  · exact absurd rfl h
  · rw [List.concat_eq_append, List.getLastD_concat, List.map_append, List.length_append]
    rw [List.getElem?_append_right (by simp; omega)]
    simp
    rw [show ((-1 : Int) + ((l.length : Int) + 1)).toNat - l.length = 0 from by omega]
    rfl
theorem dueStep {w : World} {fa : Addr} {cd : Value} {A : AD} {Hb H : Hp} {un kl ca ll rl sl D : Addr} {kv : List Addr} {lv acc : List Int} {low gap lvl i : Int} {u : Bool} {v0 v9 v11 v12 v14 v16 v17 v18 v20 v21 : SV} (C : CkB w A Hb kl ca ll kv lv) (hle : Hle Hb H)
    (hD : H D = some (intL acc)) (ba : ∀ x ∈ acc, 0 ≤ x ∧ x < lv.length) (za : acc.length ≤ 100) :
    Ex w 10 (FL fa cd ca) (ckN A un kl rl sl low gap v0 v9 (.int lvl) v11 v12 (.int i) v14 (.bool u) v16 v17 v18 (.ref D) v20 v21) H lawDue (fun fl N' H' => fl = .next ∧ N' = ckN A un kl rl sl low gap v0 v9 (.int lvl) v11 v12 (.int i) v14 (.bool u) v16 v17 v18 (.ref D) v20 v21 ∧
      H' D = some (intL (if u = false ∨ acc = [] ∨ levF lv (acc.getLastD 0) < lvl then acc ++ [i] else acc)) ∧ ∀ b o, b ≠ D → H b = some o → H' b = some o) := by
  with_unfolding_all show Ex _ _ _ (_ :: _) _ (_ :: _) _
  have h_ca := hle _ _ C.hc
  have h_ll := hle _ _ C.hl
  have hzn := C.zn
  refine Ex.ite (b := (!u || (((acc.map SV.int).length : Nat) : Int) == 0 || decide (levF lv (acc.getLastD 0) < lvl))) ?_ (fun hb => ?_) (fun hb => ?_)
  · refine EvB.or3 (EvB.not (EvB.val (Ev.loc (by wtm_at "q_vat") rfl nofun))) (fun _ => by wtm_at "q_ev") (fun _ q => ?_)
    have hne : acc ≠ [] := fun r => by rw [r] at q; exact absurd q (by decide)
    have hl := ba _ (last_mem hne)
    have hpos : 0 < acc.length := List.length_pos_iff.2 hne
    refine EvB.cmp (a := .int (levF lv (acc.getLastD 0))) (b := .int lvl) ?_ (by wtm_at "q_ev") CmpR.lt
    refine Ev.itemL (a := ll) (k := acc.getLastD 0) (Ev.cell rfl h_ca nofun rfl (by decide)) (Ev.itemBack (k := -1) (Ev.loc (by wtm_at "q_vat") rfl nofun) (Ev.neg Ev.int) hD (by decide) (by rw [List.length_map]; omega) (by decide) (last_get hne)) h_ll hl.1 (by omega) ?_
    rw [List.getElem?_map, levF_get hl.1 hl.2]; rfl
  · have hc : u = false ∨ acc = [] ∨ levF lv (acc.getLastD 0) < lvl := by
      rcases Bool.or_eq_true_iff.1 hb with q | q
      · rcases Bool.or_eq_true_iff.1 q with q | q
        · left; cases u <;> simp_all
        · right; left
          rw [List.length_map, beq_iff_eq] at q
          exact List.length_eq_zero_iff.1 (by omega)
      · right; right; exact of_decide_eq_true q
    refine Ex.appP (v := .int i) (vs := acc.map SV.int) (by wtm_at "q_ev") hD (by wtm_at "q_ev") (by rw [List.length_map]; omega) ?_
    refine Ex.nil ?_
    show Ex _ _ _ _ _ _ _
    refine Ex.nil ⟨rfl, rfl, ?_, fun b o hb h => Hp.set_ne hb h⟩
    rw [if_pos hc, intL_snoc]
    exact Hp.set_eq
  · have hq := Bool.or_eq_false_iff.1 hb
    have hq1 := Bool.or_eq_false_iff.1 hq.1
    have hc : ¬ (u = false ∨ acc = [] ∨ levF lv (acc.getLastD 0) < lvl) := by
      rintro (q | q | q)
      · rw [q] at hq1; exact absurd hq1.1 (by decide)
      · rw [q] at hq1; exact absurd hq1.2 (by decide)
      · exact absurd q (of_decide_eq_false hq.2)
    refine Ex.nil ?_
    show Ex _ _ _ _ _ _ _
    refine Ex.nil ⟨rfl, rfl, ?_, fun b o hb h => h⟩
    rw [if_neg hc]; exact hD
end
section
-- T18
theorem check_is {w : World} {fa : Addr} {cd : Value} {A : AD} {Hb H : Hp} {un kl ca ll rl sl xl a b c : Addr} {kv : List Addr} {lv la lb lc : List Int} {low gap : Int} {u : Bool} {v0 v9 v10 v11 v12 v13 v14 v16 v17 v18 v19 v20 v21 : SV} (C : CkB w A Hb kl ca ll kv lv) (hle : Hle Hb H)
    (hxl : (if u = true then sl else rl) = xl) (hx : Hb xl = some (.lst [.ref a, .ref b, .ref c])) (ha : Hb a = some (intL la)) (hb : Hb b = some (intL lb)) (hc : Hb c = some (intL lc)) (sa : AscS lv u la) (sb : AscS lv u lb) (sc : AscS lv u lc)
    (hp : (la ++ lb ++ lc).Pairwise (· < ·)) (za : la.length ≤ 4) (zb : lb.length ≤ 4) (zc : lc.length ≤ 4) (z2 : 2 ≤ (la ++ lb ++ lc).length) :
    Ex w 10 (FL fa cd ca) (ckN A un kl rl sl low gap v0 v9 v10 v11 v12 v13 v14 (.bool u) v16 v17 v18 v19 v20 v21) H lawCheck (fun fl N' H' => fl = .next ∧ Hle Hb H' ∧ ∃ v10 v13 v16 v17 v18 v19 v20 v21, N' = ckN A un kl rl sl low gap v0 v9 v10 v11 v12 v13 v14 (.bool u) v16 v17 v18 v19 v20 v21) := by
  have bs : ∀ x ∈ la ++ lb ++ lc, 0 ≤ x ∧ x < lv.length := fun x hx => by
    rcases List.mem_append.1 hx with q | q
    · rcases List.mem_append.1 q with q | q
      · exact sa.2 x q
      · exact sb.2 x q
    · exact sc.2 x q
  have zs : (la ++ lb ++ lc).length ≤ 12 := by rw [List.length_append, List.length_append]; omega
  have hzn := C.zn
  with_unfolding_all show Ex _ _ _ (_ :: _) _ (_ :: _) _
  refine Ex.unpack3L (K1 := fun v H' => v = .ref xl ∧ H' = H) ?_ (by wtm_at "q_vat") (by wtm_at "q_vat") (by wtm_at "q_vat") ?_
  · refine Ev.ifx (c0 := u) (EvB.val (Ev.loc (by wtm_at "q_vat") rfl nofun)) (fun q => ?_) (fun q => ?_)
    · rw [if_pos q] at hxl; rw [← hxl]; wtm_at "q_ev"
    · rw [if_neg (by rw [q]; decide)] at hxl; rw [← hxl]; wtm_at "q_ev"
  rintro v H' ⟨rfl, rfl⟩
  refine ⟨xl, _, _, _, rfl, hle _ _ hx, ?_⟩
  refine Ex.assignK (Ev.list .nil) (by wtm_at "q_vat") ?_
  rintro v H1 ⟨D, rfl, hDn, e⟩
  have hl1 : Hle Hb H1 := e ▸ hle.new hDn
  have hD1 : H1 D = some (intL []) := e ▸ Hp.set_eq
  have hDb := hle.none hDn
  clear e hDn hle
  refine Ex.forSeq (sorted_is C hl1 (hl1 _ _ ha) (hl1 _ _ hb) (hl1 _ _ hc) bs zs z2 hp) ?_
  rintro v H2 ⟨q, ts, rfl, hqn, hl2, h2, ht, hs, hm, zt⟩
  have hl2b := hl1.trans hl2
  refine ⟨q, _, _, fun rem N' H' => ∃ (t2 : List Trip) (acc : List Int) (v10 v13 : SV), rem = (t2.map fun t => SV.ref t.1) ∧ N' = ckN A un kl rl sl low gap v0 v9 v10 v11 v12 v13 v14 (.bool u) (.ref a) (.ref b) (.ref c) (.ref D) v20 v21 ∧ Trips H' lv t2 ∧ Hle Hb H' ∧ H' D = some (intL acc) ∧
    (∀ x ∈ acc, 0 ≤ x ∧ x < lv.length) ∧ (∀ t ∈ t2, 0 ≤ t.2.2 ∧ t.2.2 < lv.length) ∧ acc.length + t2.length ≤ 12 ∧ dueL (levF lv) u acc (idx t2) = dueL (levF lv) u [] (idx ts), rfl, h2, .inr rfl, ?_, ?_, ?_⟩
  · refine ⟨ts, [], _, _, rfl, rfl, fun t h => ⟨Hp.del_kind h2 (ht t h).1 nofun, (ht t h).2⟩, hl2b.to_del (hl1.none hqn), Hp.del_ne (Hp.none_ne hqn hD1) (hl2 _ _ hD1), by simp, fun t h => bs _ ((hm _).1 (List.mem_map.2 ⟨t, h, rfl⟩)), by simpa using zt, rfl⟩
  · rintro z r N' H' ⟨t2, acc, v10, v13, e, rfl, ht, hl, hD, ba, bt, za', hd⟩
    cases t2 with
    | nil => cases e
    | cons t t2 =>
      cases e
      refine ⟨_, Asg.pair (by wtm_at "q_vat") (by wtm_at "q_vat") (ht t List.mem_cons_self).1, ?_⟩
      rw [List.length_cons] at za'
      refine (dueStep C hl hD ba (by omega)).mono ?_
      rintro fl N3 H3 ⟨rfl, rfl, h1, h2⟩
      have hlv := (ht t List.mem_cons_self).2
      have hbt := bt t List.mem_cons_self
      refine ⟨t2, _, _, _, rfl, rfl, fun t' h => ?_, fun b o hb => h2 b o (Hp.none_ne hDb hb) (hl b o hb), h1, fun x hx => ?_, fun t' h => bt t' (List.mem_cons_of_mem _ h), ?_, ?_⟩
      · have h3 := ht t' (List.mem_cons_of_mem _ h)
        exact ⟨h2 _ _ (Hp.ne_of h3.1 hD nofun) h3.1, h3.2⟩
      · split at hx
        · rcases List.mem_append.1 hx with hx | hx
          · exact ba x hx
          · rw [List.mem_singleton.1 hx]; exact hbt
        · exact ba x hx
      · split
        · rw [List.length_append]; simp; omega
        · omega
      · rw [← hd]
        show _ = dueL (levF lv) u acc (t.2.2 :: idx t2)
        rw [dueL, hlv]
        split
        · rfl
        · rfl
  rintro N' H' ⟨t2, acc, v10, v13, e, rfl, ht, hl, hD, ba, bt, za', hd⟩
  cases t2 with
  | cons t t2 => cases e
  | nil =>
    refine ⟨H', .inl rfl, ?_⟩
    have hd' : acc = dueL (levF lv) u [] (idx ts) := hd
    obtain ⟨pl1, pl2⟩ := law_plain (levF lv) hp sa.1 sb.1 sc.1 hs hm
    rw [← hd'] at pl1 pl2
    rw [List.length_nil] at za'
    clear ht bt hd e hs hm zt h2 hl2 hqn hl2b hl1 hD1 hx hxl hd'
    have Ba : Bnd lv la := ⟨sa.2, by omega⟩
    have Bb : Bnd lv lb := ⟨sb.2, by omega⟩
    have Bc : Bnd lv lc := ⟨sc.2, by omega⟩
    have Bd : Bnd lv acc := ⟨ba, by omega⟩
    refine Ex.assignK (K1 := fun v H3 => ∃ m, v = .ref m ∧ Hle H' H3 ∧ H3 m = some (intL acc)) ?_ (by wtm_at "q_vat") ?_
    · refine Ev.callK (d' := 30) (KA := fun vs H3 => ∃ m, vs = [.ref A.st, .ref kl, .ref m, .ref c, .bool u] ∧ Hle H' H3 ∧ H3 m = some (intL (mergeL (zL (levF lv)) u la lb))) (by wtm_at "q_glob") (by wtm_at "q_fn") ?_ ?_ (by decide)
      · have g := mg_is (u := u) C hl (hl _ _ ha) (hl _ _ hb) Ba Bb
        refine EvL.consP (by wtm_at "q_ev") (EvL.consP (by wtm_at "q_ev") (EvL.consK (by wtm_at "q_ev") ?_))
        rintro v H3 ⟨m, rfl, hm0, h1, h2⟩
        exact EvL.consP (by wtm_at "q_ev") (EvL.consP (by wtm_at "q_ev") (EvL.nilK ⟨m, rfl, h1, h2⟩))
      · rintro vs H3 ⟨m, rfl, h1, h2⟩
        refine (mg_is C (hl.trans h1) h2 (h1 _ _ (hl _ _ hc)) (Ba.merge Bb (by omega)) Bc).mono ?_
        rintro v H4 ⟨m', rfl, hn, h3, h4⟩
        exact ⟨m', rfl, h1.trans h3, by rw [h4, pl1]⟩
    rintro v H3 ⟨m1, rfl, hl3, hm1⟩
    refine Ex.assignK (K1 := fun v H4 => ∃ m, v = .ref m ∧ Hle H3 H4 ∧ H4 m = some (intL acc)) ?_ (by wtm_at "q_vat") ?_
    · refine Ev.callK (d' := 30) (KA := fun vs H4 => ∃ m, vs = [.ref A.st, .ref kl, .ref a, .ref m, .bool u] ∧ Hle H3 H4 ∧ H4 m = some (intL (mergeL (zL (levF lv)) u lb lc))) (by wtm_at "q_glob") (by wtm_at "q_fn") ?_ ?_ (by decide)
      · have g := mg_is (u := u) C (hl.trans hl3) (hl3 _ _ (hl _ _ hb)) (hl3 _ _ (hl _ _ hc)) Bb Bc
        refine EvL.consP (by wtm_at "q_ev") (EvL.consP (by wtm_at "q_ev") (EvL.consP (by wtm_at "q_ev") (EvL.consK (by wtm_at "q_ev") ?_)))
        rintro v H4 ⟨m, rfl, hm0, h1, h2⟩
        exact EvL.consP (by wtm_at "q_ev") (EvL.nilK ⟨m, rfl, h1, h2⟩)
      · rintro vs H4 ⟨m, rfl, h1, h2⟩
        refine (mg_is C ((hl.trans hl3).trans h1) (h1 _ _ (hl3 _ _ (hl _ _ ha))) h2 Ba (Bb.merge Bc (by omega))).mono ?_
        rintro v H5 ⟨m', rfl, hn, h3, h4⟩
        exact ⟨m', rfl, h1.trans h3, by rw [h4, pl2]⟩
    rintro v H4 ⟨m2, rfl, hl4, hm2⟩
    have hl4b := (hl.trans hl3).trans hl4
    have hD4 := hl4 _ _ (hl3 _ _ hD)
    have hm1' := hl4 _ _ hm1
    refine Ex.iteF (b := false || false) (EvB.or2 (EvB.cmp (by wtm_at "q_ev") (by wtm_at "q_ev") (CmpR.neInts hm1' hD4 rfl)) (fun _ => EvB.cmp (by wtm_at "q_ev") (by wtm_at "q_ev") (CmpR.neInts hm2 hD4 rfl))) rfl ?_
    refine Ex.nil ?_
    show Ex _ _ _ _ _ _ _
    clear hl hl3 hl4 hm1 hm1' hm2 hD pl1 pl2 H3 H'
    refine Ex.iteK (K1 := fun b H5 => b = false ∧ Hle H4 H5) ?_ ?_ ?_
    · refine EvB.orK (K0 := fun b H5 => b = false ∧ Hle H4 H5) ?_ ?_ ?_
      · refine EvB.cmpK (K1 := fun v H5 => ∃ m, v = .ref m ∧ Hle H4 H5 ∧ H5 m = some (intL acc)) (K2 := fun v u H5 => u = .ref D ∧ ∃ m, v = .ref m ∧ Hle H4 H5 ∧ H5 m = some (intL acc)) ?_ ?_ ?_
        · refine Ev.callK (d' := 30) (KA := fun vs H5 => ∃ m, vs = [.ref A.st, .ref kl, .ref m, .ref D, .bool u] ∧ Hle H4 H5 ∧ H5 m = some (intL [])) (by wtm_at "q_glob") (by wtm_at "q_fn") ?_ ?_ (by decide)
          · refine EvL.consP (by wtm_at "q_ev") (EvL.consP (by wtm_at "q_ev") (EvL.consK (Ev.list .nil) ?_))
            rintro v H5 ⟨m, rfl, hm0, rfl⟩
            exact EvL.consP (by wtm_at "q_ev") (EvL.consP (by wtm_at "q_ev") (EvL.nilK ⟨m, rfl, Hle.rfl.new hm0, Hp.set_eq⟩))
          · rintro vs H5 ⟨m, rfl, h1, h2⟩
            refine (mg_is C (hl4b.trans h1) h2 (h1 _ _ hD4) ⟨by simp, by simp⟩ Bd).mono ?_
            rintro v H6 ⟨m', rfl, hn, h3, h4⟩
            exact ⟨m', rfl, h1.trans h3, by rw [h4, mergeL]⟩
        · rintro v H5 ⟨m, rfl, h1, h2⟩
          exact Ev.mono (K := fun u H6 => u = .ref D ∧ H6 = H5) (by wtm_at "q_ev") fun u H6 k => by obtain ⟨rfl, rfl⟩ := k; exact ⟨rfl, m, rfl, h1, h2⟩
        · rintro v u H5 ⟨rfl, m, rfl, h1, h2⟩
          exact ⟨false, CmpR.neInts h2 (h1 _ _ hD4) rfl, rfl, h1⟩
      · rintro H5 ⟨h, _⟩; cases h
      · rintro H5 ⟨_, h5⟩
        refine EvB.cmpK (K1 := fun v H6 => ∃ m, v = .ref m ∧ Hle H4 H6 ∧ H6 m = some (intL acc)) (K2 := fun v u H6 => u = .ref D ∧ ∃ m, v = .ref m ∧ Hle H4 H6 ∧ H6 m = some (intL acc)) ?_ ?_ ?_
        · refine Ev.callK (d' := 30) (KA := fun vs H6 => ∃ m, vs = [.ref A.st, .ref kl, .ref D, .ref m, .bool u] ∧ Hle H4 H6 ∧ H6 m = some (intL [])) (by wtm_at "q_glob") (by wtm_at "q_fn") ?_ ?_ (by decide)
          · refine EvL.consP (by wtm_at "q_ev") (EvL.consP (by wtm_at "q_ev") (EvL.consP (by wtm_at "q_ev") (EvL.consK (Ev.list .nil) ?_)))
            rintro v H6 ⟨m, rfl, hm0, rfl⟩
            exact EvL.consP (by wtm_at "q_ev") (EvL.nilK ⟨m, rfl, h5.new hm0, Hp.set_eq⟩)
          · rintro vs H6 ⟨m, rfl, h1, h2⟩
            refine (mg_is C (hl4b.trans h1) (h1 _ _ hD4) h2 Bd ⟨by simp, by simp⟩).mono ?_
            rintro v H7 ⟨m', rfl, hn, h3, h4⟩
            exact ⟨m', rfl, h1.trans h3, by rw [h4, mergeL_nil]⟩
        · rintro v H6 ⟨m, rfl, h1, h2⟩
          exact Ev.mono (K := fun u H7 => u = .ref D ∧ H7 = H6) (by wtm_at "q_ev") fun u H7 k => by obtain ⟨rfl, rfl⟩ := k; exact ⟨rfl, m, rfl, h1, h2⟩
        · rintro v u H6 ⟨rfl, m, rfl, h1, h2⟩
          exact ⟨false, CmpR.neInts h2 (h1 _ _ hD4) rfl, rfl, h1⟩
    · rintro H5 ⟨h, _⟩; cases h
    · rintro H5 ⟨_, h5⟩
      refine Ex.nil ?_
      show Ex _ _ _ _ _ _ _
      exact Ex.nil ⟨rfl, hl4b.trans h5, _, _, _, _, _, _, _, _, rfl⟩
end
section
-- T19
noncomputable abbrev compSc : Scope := { kind := .function, names := [(Str.ofString ".0", .local), (Str.ofString "run", .local), (Str.ofString "list", .globalImplicit)], isGenerator := false, isCoroutine := false, more := [] }
/-- [list(run) for run in runs] -/
theorem copies_is {w : World} {fa : Addr} {cd : Value} {ca : Addr} {N : List SV} {H : Hp} {y : Str} {p1 p2 p3 p4 p5 pos : Pos} {j : Nat} {rl : Addr} {L : List (Addr × List Int)} (hy : VarAt (FL fa cd ca).vars j y) (hv : N[j]? = some (.ref rl)) (hr : H rl = some (.lst (L.map fun p => SV.ref p.1))) (hL : ∀ p ∈ L, H p.1 = some (intL p.2) ∧ p.1 ≠ rl ∧ p.2.length ≤ 1000) (zL : L.length ≤ 1000)
    (hs : ∀ env z, foldedSetIterable (.Name y p5) env z = pure z := by intros; with_unfolding_all exact rfl) :
    Ev w 10 (FL fa cd ca) N H (.ListComp (.Call (.Name (Str.ofString "list") p1) [.Name (Str.ofString "run") p2] [] p3) [⟨.Name (Str.ofString "run") p4, .Name y p5, [], 0⟩] compSc pos)
      (fun v H' => ∃ D, v = .ref D ∧ H D = none ∧ Hle H H' ∧ EqV H' 3 (.ref D) (.ref rl)) := by
  refine Ev.listComp (cl := []) (K1 := fun v H1 => v = .ref rl ∧ H1 = H) (EvM.loc hy hv nofun) ?_ (fun c => by rfl) (by decide) rfl (by decide) rfl hs
  rintro v H1 ⟨rfl, rfl⟩
  refine ⟨rl, _, fun ys rem H' => ∃ (cs : List Addr) (L1 L2 : List (Addr × List Int)), L = L1 ++ L2 ∧ rem = (L2.map fun p => SV.ref p.1) ∧ ys = cs.map SV.ref ∧ cs.length = L1.length ∧ (∀ (i : Nat) c p, cs[i]? = some c → L1[i]? = some p → H' c = some (intL p.2) ∧ c ≠ p.1) ∧ Hle (H1.del rl) H', rfl, hr, by rw [List.length_map]; omega, ⟨[], [], L, rfl, rfl, rfl, rfl, by simp, Hle.rfl⟩, ?_, ?_⟩
  · rintro ys u r H' ⟨cs, L1, L2, e1, e2, rfl, hz, hc, hl⟩
    cases L2 with
    | nil => cases e2
    | cons p L2 =>
      cases e2
      obtain ⟨h1, h2, h3⟩ := hL p (by rw [e1]; simp)
      have h4 : H' p.1 = some (intL p.2) := hl _ _ (Hp.del_ne h2 h1)
      refine EvC.mono (EvC.listOf (fun _ _ => ⟨rfl, rfl⟩) (fun _ _ => ⟨rfl, rfl⟩) (by decide) h4 (by rw [List.length_map]; omega)) fun z H2 k => ?_
      obtain ⟨D, rfl, hD, rfl⟩ := k
      refine ⟨cs ++ [D], L1 ++ [p], L2, by rw [e1]; simp, rfl, by simp, by simp [hz], fun i c q hi hq => ?_, hl.new hD⟩
      by_cases hlt : i < cs.length
      · rw [List.getElem?_append_left hlt] at hi
        rw [List.getElem?_append_left (by omega)] at hq
        have := hc i c q hi hq
        exact ⟨Hp.set_new hD this.1, this.2⟩
      · have h5 := (List.getElem?_eq_some_iff.1 hi).1
        rw [List.length_append] at h5; simp at h5
        have h6 : i = cs.length := by omega
        rw [List.getElem?_append_right (by omega), h6, Nat.sub_self] at hi
        rw [List.getElem?_append_right (by omega), h6, hz, Nat.sub_self] at hq
        simp at hi hq
        subst hi; subst hq
        exact ⟨Hp.set_eq, Hp.ne_none hD h4⟩
  · rintro ys H' ⟨cs, L1, L2, e1, e2, rfl, hz, hc, hl⟩ hn D hD hne
    cases L2 with
    | cons p L2 => cases e2
    | nil =>
      rw [List.append_nil] at e1
      subst e1
      have hl2 : Hle H1 (H'.set rl (.lst (L.map fun p => SV.ref p.1))) := fun b o hb => by
        by_cases q : b = rl
        · subst q; rw [hr] at hb; cases hb; exact Hp.set_eq
        · exact Hp.set_ne q (hl b o (Hp.del_ne q hb))
      have hD2 : (H'.set rl (.lst (L.map fun p => SV.ref p.1))) D = none := Hp.set_ne hne hD
      refine ⟨D, rfl, hl2.none hD2, hl2.new hD2, ?_⟩
      refine .lst Hp.set_eq (Hp.set_new hD2 Hp.set_eq) hne (by simp [hz]) fun i v u hi hu => ?_
      rw [List.getElem?_map, Option.map_eq_some_iff] at hi hu
      obtain ⟨c, hi, rfl⟩ := hi
      obtain ⟨p, hu, rfl⟩ := hu
      obtain ⟨h1, h2⟩ := hc i c p hi hu
      obtain ⟨h3, h4, _⟩ := hL p (List.mem_of_getElem? hu)
      refine EqV.copy (n := 1) (Hp.set_new hD2 (Hp.set_ne (fun q => ?_) h1)) (Hp.set_new hD2 (hl2 _ _ h3)) h2
      rw [q, hn] at h1; cases h1
theorem CkB.le {w : World} {A : AD} {H H' : Hp} {kl ca ll : Addr} {kv : List Addr} {lv : List Int} (C : CkB w A H kl ca ll kv lv) (l : Hle H H') : CkB w A H' kl ca ll kv lv :=
  ⟨l _ _ C.hk, l _ _ C.hc, l _ _ C.hl, C.zn, fun x y h1 h2 h3 h4 => let ⟨cx, cy, e1, e2, k⟩ := C.cmp x y h1 h2 h3 h4; ⟨cx, cy, e1, e2, k.le l⟩⟩
theorem WK.cmp {w : World} {A : AD} {H : Hp} {low gap : Int} {hs : List SV} {T : List Str} {F : List (Addr × Int × Int)} {kv : List Addr} {lv : List Int} (k : WK A H low gap hs T F kv lv) (hg : 1 ≤ gap) (hn : lv.length ≤ 12) (x y : Int) (x0 : 0 ≤ x) (x1 : x < lv.length) (y0 : 0 ≤ y) (y1 : y < lv.length) :
    ∃ cx cy, kv[x.toNat]? = some cx ∧ kv[y.toNat]? = some cy ∧ CmpI w H A.st cx cy (cmpZ (levF lv x) (levF lv y)) := by
  have zk := k.zk
  have h1 := k.zh
  have h2 := k.zT
  have h3 := k.zF
  have e1 : kv[x.toNat]? = some kv[x.toNat] := List.getElem?_eq_getElem (by omega)
  have e2 : kv[y.toNat]? = some kv[y.toNat] := List.getElem?_eq_getElem (by omega)
  exact ⟨_, _, e1, e2, cmpI_of k.wd.pB k.wd.php (by omega) (key_cmp k.wd (by omega) (by omega) (by omega) hg (k.ky _ _ _ e1 (levF_get x0 x1)) (k.ky _ _ _ e2 (levF_get y0 y1)))⟩
end
section
-- T20
theorem three {P : List PT} (h : P.length = 3) : ∃ p2 p1 p0, P = [p2, p1, p0] := by
  match P, h with
  | [p2, p1, p0], _ => exact ⟨p2, p1, p0, rfl⟩
theorem law_tail {w : World} {fa : Addr} {cd : Value} {ca : Addr} {A : AD} {H : Hp} {un sc kl ll rl sl : Addr} {u k low gap : Int} {ns : List Int} {hs : List SV} {T : List Str} {F : List (Addr × Int × Int)} {kv : List Addr} {lv : List Int} {P : List PT} {v0 v9 v10 v11 v12 v13 : SV}
    (B : BSt A H un sc kl ca ll rl sl low gap ns 3 u k kv lv P hs T F) (hg : 1 ≤ gap) :
    Ex w 10 (FL fa cd ca) (lawN A un kl rl sl low gap v0 v9 v10 v11 v12 v13) H (lawBody.drop 12) (fun fl N' H' => fl = .ret (.bool true)) := by
  with_unfolding_all show Ex _ _ _ (_ :: _) _ (_ :: _) _
  obtain ⟨p2, p1, p0, rfl⟩ := three B.pl
  obtain ⟨ow, wk, k0, k1, pu, -, ln⟩ := B
  have hzn : lv.length ≤ 12 := by omega
  have h_kl := ow.tl.h0
  have h_rl : H rl = some (.lst [.ref p0.ra, .ref p1.ra, .ref p2.ra]) := ow.tl.tl.tl.tl.h0
  have h_sl : H sl = some (.lst [.ref p0.sa, .ref p1.sa, .ref p2.sa]) := ow.tl.tl.tl.tl.tl.h0
  have owR : Own H A.X ((rl, .lst [.ref p0.ra, .ref p1.ra, .ref p2.ra]) :: (sl, .lst [.ref p0.sa, .ref p1.sa, .ref p2.sa]) :: (sc, intL ns) :: [(p2.ra, intL p2.is), (p2.sa, intL p2.js), (p1.ra, intL p1.is), (p1.sa, intL p1.js), (p0.ra, intL p0.is), (p0.sa, intL p0.js)]) := ow.tl.tl.tl.tl
  have a2 := owR.tl.tl.tl.h0
  have b2 := owR.tl.tl.tl.tl.h0
  have a1 := owR.tl.tl.tl.tl.tl.h0
  have b1 := owR.tl.tl.tl.tl.tl.tl.h0
  have a0 := owR.tl.tl.tl.tl.tl.tl.tl.h0
  have b0 := owR.tl.tl.tl.tl.tl.tl.tl.tl.h0
  have nd := owR.nd
  simp only [List.map_cons, List.map_nil, List.nodup_cons, List.mem_cons, List.not_mem_nil, or_false, not_or] at nd
  obtain ⟨⟨n1, n2, n3, n4, n5, n6, n7, n8⟩, ⟨m2, m3, m4, m5, m6, m7, m8⟩, -⟩ := nd
  have C : CkB w A H kl ca ll kv lv := ⟨h_kl, ow.tl.tl.h0, ow.tl.tl.tl.h0, hzn, wk.cmp hg hzn⟩
  have hpr : (p0.is ++ p1.is ++ p2.is).Pairwise (· < ·) := by
    have := upTo_asc lv.length
    rw [← pu.cr] at this
    exact this
  have hps : (p0.js ++ p1.js ++ p2.js).Pairwise (· < ·) := pu.cs
  obtain ⟨s2, t2, e2, f2, y2, z2⟩ := pu.ea p2 (by simp)
  obtain ⟨s1, t1, e1, f1, y1, z1⟩ := pu.ea p1 (by simp)
  obtain ⟨s0, t0, e0, f0, y0, z0⟩ := pu.ea p0 (by simp)
  have W := wk.wd
  have h_st := W.pB.st
  have h_sx := W.pB.sx
  have h_hp := W.php
  have hzh := wk.zh
  have hkz := wk.zk
  refine Ex.assignK (K1 := fun v H' => ∃ bf k1 r1 s1 h1, v = .ref bf ∧ Hle H H' ∧ H' bf = some (.lst [.ref k1, .ref r1, .ref s1, .ref h1]) ∧ EqV H' 3 (.ref k1) (.ref kl) ∧ EqV H' 3 (.ref r1) (.ref rl) ∧ EqV H' 3 (.ref s1) (.ref sl) ∧ EqV H' 3 (.ref h1) (.ref A.hp)) ?_ (by wtm_at "q_vat") ?_
  · refine Ev.listK (KA := fun vs H' => ∃ k1 r1 s1 h1, vs = [.ref k1, .ref r1, .ref s1, .ref h1] ∧ Hle H H' ∧ EqV H' 3 (.ref k1) (.ref kl) ∧ EqV H' 3 (.ref r1) (.ref rl) ∧ EqV H' 3 (.ref s1) (.ref sl) ∧ EqV H' 3 (.ref h1) (.ref A.hp)) ?_ ?_
    · refine EvL.consK (K1 := fun v H1 => ∃ k1, v = .ref k1 ∧ Hle H H1 ∧ EqV H1 3 (.ref k1) (.ref kl)) (Ev.listOfK (K1 := fun v H1 => v = .ref kl ∧ H1 = H) rfl (by wtm_at "q_ev") ?_) ?_
      · rintro v H1 ⟨rfl, rfl⟩
        refine ⟨kl, _, rfl, h_kl, by rw [map_ref_len]; omega, fun D hD => ⟨D, rfl, Hle.rfl.new hD, EqV.copy Hp.set_eq (Hp.set_new hD h_kl) (Hp.ne_none hD h_kl)⟩⟩
      rintro v H1 ⟨k1, rfl, l1, q1⟩
      refine EvL.consK (copies_is (L := [(p0.ra, p0.is), (p1.ra, p1.is), (p2.ra, p2.is)]) (by wtm_at "q_vat") rfl (l1 _ _ h_rl) ?_ (by show 3 ≤ 1000; decide)) ?_
      · intro p hp
        rcases List.mem_cons.1 hp with rfl | hp
        · exact ⟨l1 _ _ a0, Ne.symm n7, by show p0.is.length ≤ 1000; omega⟩
        rcases List.mem_cons.1 hp with rfl | hp
        · exact ⟨l1 _ _ a1, Ne.symm n5, by show p1.is.length ≤ 1000; omega⟩
        rw [List.mem_singleton.1 hp]
        exact ⟨l1 _ _ a2, Ne.symm n3, by show p2.is.length ≤ 1000; omega⟩
      rintro v H2 ⟨r1, rfl, -, l2, q2⟩
      have l2b := l1.trans l2
      refine EvL.consK (copies_is (L := [(p0.sa, p0.js), (p1.sa, p1.js), (p2.sa, p2.js)]) (by wtm_at "q_vat") rfl (l2b _ _ h_sl) ?_ (by show 3 ≤ 1000; decide)) ?_
      · intro p hp
        rcases List.mem_cons.1 hp with rfl | hp
        · exact ⟨l2b _ _ b0, Ne.symm m8, by show p0.js.length ≤ 1000; omega⟩
        rcases List.mem_cons.1 hp with rfl | hp
        · exact ⟨l2b _ _ b1, Ne.symm m6, by show p1.js.length ≤ 1000; omega⟩
        rw [List.mem_singleton.1 hp]
        exact ⟨l2b _ _ b2, Ne.symm m4, by show p2.js.length ≤ 1000; omega⟩
      rintro v H3 ⟨s1, rfl, -, l3, q3⟩
      have l3b := l2b.trans l3
      have h_st3 := l3b _ _ h_st
      have h_sx3 := l3b _ _ h_sx
      have h_hp3 := l3b _ _ h_hp
      refine EvL.consK (K1 := fun v H4 => ∃ h1, v = .ref h1 ∧ Hle H3 H4 ∧ EqV H4 3 (.ref h1) (.ref A.hp)) (Ev.listOfK (K1 := fun v H4 => v = .ref A.hp ∧ H4 = H3) rfl (by wtm_at "q_ev") ?_) ?_
      · rintro v H4 ⟨rfl, rfl⟩
        exact ⟨A.hp, _, rfl, h_hp3, by omega, fun D hD => ⟨D, rfl, Hle.rfl.new hD, EqV.copy Hp.set_eq (Hp.set_new hD h_hp3) (Hp.ne_none hD h_hp3)⟩⟩
      rintro v H4 ⟨h1, rfl, l4, q4⟩
      exact EvL.nilK ⟨k1, r1, s1, h1, rfl, l3b.trans l4, ((q1.le l2).le l3).le l4, (q2.le l3).le l4, q3.le l4, q4⟩
    · rintro vs H1 ⟨k1, r1, s1, h1, rfl, l, q1, q2, q3, q4⟩
      refine ⟨by show 4 ≤ 1000; decide, fun bf hbf => ⟨bf, k1, r1, s1, h1, rfl, l.new hbf, Hp.set_eq, ?_, ?_, ?_, ?_⟩⟩
      · exact q1.le (Hle.rfl.new hbf)
      · exact q2.le (Hle.rfl.new hbf)
      · exact q3.le (Hle.rfl.new hbf)
      · exact q4.le (Hle.rfl.new hbf)
  rintro v Hb ⟨bf, k1', r1, s1', h1, rfl, lb, hbf, q1, q2, q3, q4⟩
  have Cb := C.le lb
  refine Ex.forSeq (K1 := fun v H1 => ∃ a, v = .ref a ∧ Hb a = none ∧ H1 = Hb.set a (.lst [.bool false, .bool true])) (Ev.list (EvL.cons Ev.bool (EvL.cons Ev.bool .nil))) ?_
  rintro v H1 ⟨q, rfl, hq, rfl⟩
  refine ⟨q, _, _, fun rem N' H' => ∃ v10 v13 v15 v16 v17 v18 v19 v20 v21, N' = ckN A un kl rl sl low gap v0 v9 v10 v11 v12 v13 (.ref bf) v15 v16 v17 v18 v19 v20 v21 ∧ Hle Hb H' ∧ (rem = [.bool false, .bool true] ∨ rem = [.bool true] ∨ rem = []), rfl, Hp.set_eq, .inr rfl, ⟨_, _, _, _, _, _, _, _, _, rfl, (Hle.rfl.new hq).to_del hq, .inl rfl⟩, ?_, ?_⟩
  · rintro z r N' H' ⟨v10, v13, v15, v16, v17, v18, v19, v20, v21, rfl, hl, hr⟩
    have hz : (z = .bool false ∧ r = [.bool true]) ∨ (z = .bool true ∧ r = []) := by
      rcases hr with hr | hr | hr
      · cases hr; exact .inl ⟨rfl, rfl⟩
      · cases hr; exact .inr ⟨rfl, rfl⟩
      · cases hr
    rcases hz with ⟨rfl, rfl⟩ | ⟨rfl, rfl⟩
    · refine ⟨_, Asg.name (by wtm_at "q_vat"), ?_⟩
      refine (check_is (u := false) Cb hl (xl := rl) rfl (lb _ _ h_rl) (lb _ _ a0) (lb _ _ a1) (lb _ _ a2) s0 s1 s2 hpr y0 y1 y2 ?_).mono ?_
      · have e0 := List.length_pos_iff.2 e0
        have e1 := List.length_pos_iff.2 e1
        rw [List.length_append, List.length_append]; omega
      · rintro fl N3 H3 ⟨rfl, h3, w10, w13, w16, w17, w18, w19, w20, w21, rfl⟩
        exact ⟨_, _, _, _, _, _, _, _, _, rfl, h3, .inr (.inl rfl)⟩
    · refine ⟨_, Asg.name (by wtm_at "q_vat"), ?_⟩
      refine (check_is (u := true) Cb hl (xl := sl) rfl (lb _ _ h_sl) (lb _ _ b0) (lb _ _ b1) (lb _ _ b2) t0 t1 t2 hps z0 z1 z2 ?_).mono ?_
      · have f0 := List.length_pos_iff.2 f0
        have f1 := List.length_pos_iff.2 f1
        rw [List.length_append, List.length_append]; omega
      · rintro fl N3 H3 ⟨rfl, h3, w10, w13, w16, w17, w18, w19, w20, w21, rfl⟩
        exact ⟨_, _, _, _, _, _, _, _, _, rfl, h3, .inr (.inr rfl)⟩
  · rintro N' H' ⟨v10, v13, v15, v16, v17, v18, v19, v20, v21, rfl, hl, -⟩
    refine ⟨H', .inl rfl, ?_⟩
    have lf := lb.trans hl
    have h_st' := lf _ _ h_st
    have h_sx' := lf _ _ h_sx
    refine Ex.retK (Ev.cmpK (K1 := fun v H1 => v = .ref bf ∧ H1 = H') (K2 := fun v u H1 => v = .ref bf ∧ ∃ a, u = .ref a ∧ H' a = none ∧ H1 = H'.set a (.lst [.ref kl, .ref rl, .ref sl, .ref A.hp])) (by wtm_at "q_ev") ?_ ?_)
    · rintro v H1 ⟨rfl, rfl⟩
      exact Ev.mono (Ev.list (vs := [.ref kl, .ref rl, .ref sl, .ref A.hp]) (by wtm_at "q_ev") (by show 4 ≤ 1000; decide)) fun u H2 k => ⟨rfl, k⟩
    · rintro v u H1 ⟨rfl, a, rfl, ha, rfl⟩
      refine ⟨true, CmpR.eqV (n := 3) (Hp.set_new ha (hl _ _ hbf)) Hp.set_eq rfl ?_ (by decide), rfl⟩
      have g : ∀ {x y : SV}, EqV Hb 3 x y → EqV (H'.set a (.lst [.ref kl, .ref rl, .ref sl, .ref A.hp])) 3 x y := fun q => (q.le hl).le (Hle.rfl.new ha)
      intro i v u hv hu
      match i, hv, hu with
      | 0, hv, hu => cases hv; cases hu; exact g q1
      | 1, hv, hu => cases hv; cases hu; exact g q2
      | 2, hv, hu => cases hv; cases hu; exact g q3
      | 3, hv, hu => cases hv; cases hu; exact g q4
      | n + 4, hv, hu => cases hv
end
section
-- T21
theorem law_pre {w : World} {fa : Addr} {cd : Value} {ca : Addr} {H : Hp} {un sc : Addr} {ns : List Int} {v0 : SV} (h_un : H un = some (.lst [.int 0, .ref sc, .int 0])) (h_sc : H sc = some (intL ns)) (h_ca : H ca = some (.cell .unb)) (hne : un ≠ sc) (hz : ns.length ≤ 100) :
    Ex w 10 (FL fa cd ca) [v0, .ref un, .unb, .unb, .unb, .unb, .unb, .unb, .unb, .unb, .unb, .unb, .unb, .unb, .unb, .unb, .unb, .unb, .unb, .unb, .unb, .unb] H (lawBody.drop 1) (fun fl N' H' => fl = .ret (.bool true)) := by
  with_unfolding_all show Ex _ _ _ (_ :: _) _ (_ :: _) _
  refine Ex.assignK (K1 := fun v H2 => ∃ bk bx tx an fn nn T F, v = .ref bk ∧ Hle H H2 ∧ H2 bk = some (.inst 154 bx) ∧ H2 bx = some (bkO tx an fn nn) ∧ BookI H2 tx an fn nn T F ∧ T.length ≤ 100 ∧ F.length ≤ 100 ∧ (∃ k a, F[0]? = some (k, a, 2)) ∧ H tx = none ∧ H an = none ∧ H fn = none ∧ H nn = none)
    (Ev.make0 (d' := 50) (by wtm_at "q_glob") (by wtm_at "q_fn") mk_154 (fun x dx hdx hx hxd => ?_) (by decide)) (by wtm_at "q_vat") ?_
  · refine (syinit (H0 := H) ((Hle.rfl.new hdx).new (Hp.set_ne (Ne.symm hxd) hx)) Hp.set_eq (Hp.set_ne hxd Hp.set_eq) hdx).mono ?_
    rintro v H2 ⟨rfl, tx, an, fn, nn, T, F, h⟩
    obtain ⟨h1, h2, h3, h4, h5, h6, h7, h8, h9, h10, h11⟩ := h
    exact ⟨rfl, x, dx, tx, an, fn, nn, T, F, rfl, h1, h2, h3, h4, h5, h6, h7, h8, h9, h10, h11⟩
  rintro v H2 ⟨bk, bx, tx, an, fn, nn, T, F, rfl, l2, h_bk, h_bx, bi, zT, zF, hF, ntx, nan, nfn, nnn⟩
  refine Ex.assignK (K1 := fun v H3 => ∃ st sx hp sk tr, v = .ref st ∧ Hle H2 H3 ∧ H3 st = some (.inst 380 sx) ∧ H3 sx = some (stO bk hp sk tr) ∧ H3 hp = some (.lst []) ∧ H2 hp = none)
    (Ev.makeK (d' := 60) (KA := fun vs H3 => vs = [.ref bk] ∧ H3 = H2) (by wtm_at "q_glob") (by wtm_at "q_fn") mk_380 (by wtm_at "q_ev") ?_ (by decide)) (by wtm_at "q_vat") ?_
  · rintro vs H3 ⟨rfl, rfl⟩ x dx hdx hx hxd
    refine (stinit (H0 := H3) (bk := bk) (bx := bx) (tx := tx) (an := an) (fn := fn) (nn := nn) ((Hle.rfl.new hdx).new (Hp.set_ne (Ne.symm hxd) hx)) Hp.set_eq (Hp.set_ne hxd Hp.set_eq) hdx).mono ?_
    rintro v H4 ⟨rfl, hp, sk, tr, h1, h2, h3, h4, h5, h6, h7, h8, h9, h10, h11⟩
    exact ⟨rfl, x, dx, hp, sk, tr, rfl, h1, h2, h3, h4, h9⟩
  rintro v H3 ⟨st, sx, hp, sk, tr, rfl, l3, h_st, h_sx, h_hp, nhp⟩
  have B : Base H3 st sx hp sk tr bk bx tx an fn nn := ⟨h_st, h_sx, l3 _ _ h_bk, l3 _ _ h_bx⟩
  have bi3 := bi.le l3
  have n1 : hp ≠ tx := Hp.ne_none nhp bi.ptx
  have n2 : hp ≠ fn := Hp.ne_none nhp bi.pfn
  have n3 : hp ≠ an := Hp.ne_none nhp bi.pan
  have n4 : hp ≠ nn := Hp.ne_none nhp bi.pnn
  have l13 := l2.trans l3
  have nhp0 : H hp = none := l2.none nhp
  have offU : ∀ {a : Addr} {o : SO}, H a = some o → a ∉ [hp, tx, an, fn, nn] := fun {a o} h => by
    simp only [List.mem_cons, List.not_mem_nil, or_false, not_or]
    exact ⟨Hp.none_ne nhp0 h, Hp.none_ne ntx h, Hp.none_ne nan h, Hp.none_ne nfn h, Hp.none_ne nnn h⟩
  have ow3 : Own H3 [hp, tx, an, fn, nn] [(un, .lst [.int 0, .ref sc, .int 0]), (ca, .cell .unb), (sc, intL ns)] := by
    refine ⟨fun p hp' => ?_, ?_, fun p hp' => ?_⟩
    · simp only [List.mem_cons, List.not_mem_nil, or_false] at hp'
      rcases hp' with rfl | rfl | rfl
      · exact l13 _ _ h_un
      · exact l13 _ _ h_ca
      · exact l13 _ _ h_sc
    · simp only [List.map_cons, List.map_nil, List.nodup_cons, List.mem_cons, List.not_mem_nil, or_false, not_or, not_false_eq_true, List.nodup_nil, and_true]
      exact ⟨⟨Hp.ne_of h_un h_ca nofun, hne⟩, Hp.ne_of h_ca h_sc nofun⟩
    · simp only [List.mem_cons, List.not_mem_nil, or_false] at hp'
      rcases hp' with rfl | rfl | rfl
      · exact offU h_un
      · exact offU h_ca
      · exact offU h_sc
  clear offU l13 l2 nhp nhp0 ntx nan nfn nnn h_un h_ca h_sc h_bk h_bx bi l3
  have nv1 := new_var_is (w := w) B h_hp (by decide)
  refine Ex.expr (by wtm_at "q_ev") ?_
  rintro v H4 ⟨d0, -, hd0, e⟩
  replace e : H4 = (H3.set d0 (cellO 0 0)).set hp (.lst [.ref d0]) := e
  have hnd0 : d0 ≠ hp := Hp.ne_none hd0 h_hp
  have of4 : Off [hp] H3 H4 := e ▸ (Off.rfl.new hd0).set (by simp)
  have B4 := B.off of4 h_hp
  have hp4 : H4 hp = some (.lst [.ref d0]) := e ▸ Hp.set_eq
  have bi4 : BookI H4 tx an fn nn T F := bi3.offHp of4 h_hp n1 n2
  have hd04 : H4 d0 = some (cellO 0 0) := e ▸ Hp.set_ne hnd0 Hp.set_eq
  have ow4 := ow3.keep (of4.more (by simp))
  have h_st4 := B4.st
  have h_sx4 := B4.sx
  clear e nv1
  have nv2 := new_var_is (w := w) B4 hp4 (by simp)
  refine Ex.expr (by wtm_at "q_ev") ?_
  rintro v H5 ⟨d1, -, hd1, e⟩
  replace e : H5 = (H4.set d1 (cellO 0 1)).set hp (.lst [.ref d0, .ref d1]) := e
  have hnd1 : d1 ≠ hp := Hp.ne_none hd1 hp4
  have of5 : Off [hp] H4 H5 := e ▸ (Off.rfl.new hd1).set (by simp)
  have B5 := B4.off of5 hp4
  have hp5 : H5 hp = some (.lst [.ref d0, .ref d1]) := e ▸ Hp.set_eq
  have bi5 : BookI H5 tx an fn nn T F := bi4.offHp of5 hp4 n1 n2
  have hd05 : H5 d0 = some (cellO 0 0) := of5 _ _ (by simpa using hnd0) hd04
  have hd15 : H5 d1 = some (cellO 0 1) := e ▸ Hp.set_ne hnd1 Hp.set_eq
  have ow5 := ow4.keep (of5.more (by simp))
  clear e nv2 h_st h_sx h_st4 h_sx4
  have wk5 : ∀ low gap, WK ⟨st, sx, hp, sk, tr, bk, bx, tx, an, fn, nn, d0, d1⟩ H5 low gap [.ref d0, .ref d1] T F [] [] := fun low gap => ⟨⟨B5, hp5, bi5, n1, n2, rfl, hd05, rfl, hd15, hF⟩, by simp, by simp; omega, by simp; omega, rfl, fun i c z h => by simp at h⟩
  clear B B4 bi3 bi4 hp4 hd04 of4 of5 ow3 ow4 hd0 hd1 hnd0 hnd1 h_hp
  have hpk := pick_is (w := w) (fc := 1000000000000) ow5.h0 ow5.tl.tl.h0 hz (by decide) (by decide) (by decide) (by decide +kernel)
  refine Ex.assignK (K1 := fun v H6 => ∃ z u' k', v = .int (0 - z) ∧ 0 ≤ k' ∧ k' ≤ 100 ∧ H6 = H5.set un (urnO u' sc k')) (Ev.subK Ev.int (Ev.call (d' := 40) (by wtm_at "q_glob") (by wtm_at "q_fn") (EvL.cons (by wtm_at "q_ev") (EvL.cons Ev.pow12 .nil)) hpk (by decide)) ?_) (by wtm_at "q_vat") ?_
  · rintro v H6 ⟨z, u', k', rfl, h1, h2, h3, h4, h5⟩
    exact ⟨z, rfl, z, u', k', rfl, h3, h4, h5⟩
  rintro v H6 ⟨z, u1, k1, rfl, k10, k11, e⟩
  have ow6 := ow5.put [] _ (o' := urnO u1 sc k1)
  have wk6 := fun low gap => (wk5 low gap).put (o' := urnO u1 sc k1) ow5.h0 ow5.o0 Mine'.lst
  rw [← e] at ow6 wk6
  replace ow6 : Own H6 [hp, tx, an, fn, nn] [(un, urnO u1 sc k1), (ca, .cell .unb), (sc, intL ns)] := ow6
  clear e hpk ow5 wk5
  have hpk := pick_is (w := w) (fc := 1000000000000) ow6.h0 ow6.tl.tl.h0 hz k10 k11 (by decide) (by decide +kernel)
  refine Ex.assignK (K1 := fun v H7 => ∃ z u' k', v = .int (1 + z) ∧ 0 ≤ z ∧ 0 ≤ k' ∧ k' ≤ 100 ∧ H7 = H6.set un (urnO u' sc k')) (Ev.addK Ev.int (Ev.call (d' := 40) (by wtm_at "q_glob") (by wtm_at "q_fn") (EvL.cons (by wtm_at "q_ev") (EvL.cons Ev.pow12 .nil)) hpk (by decide)) ?_) (by wtm_at "q_vat") ?_
  · rintro v H6 ⟨z, u', k', rfl, h1, h2, h3, h4, h5⟩
    exact ⟨z, rfl, z, u', k', rfl, h1, h3, h4, h5⟩
  rintro v H7 ⟨z2, u2, k2, rfl, z20, k20, k21, e⟩
  have ow7 := ow6.put [] _ (o' := urnO u2 sc k2)
  have wk7 := (wk6 (0 - z) (1 + z2)).put (o' := urnO u2 sc k2) ow6.h0 ow6.o0 Mine'.lst
  rw [← e] at ow7 wk7
  replace ow7 : Own H7 [hp, tx, an, fn, nn] [(un, urnO u2 sc k2), (ca, .cell .unb), (sc, intL ns)] := ow7
  clear e hpk ow6 wk6
  refine Ex.assignK (Ev.list .nil) (by wtm_at "q_vat") ?_
  rintro v H8 ⟨kl, rfl, hn, e⟩
  have ow8 := ow7.newAt [_] _ (o := .lst []) hn (wk7.wd.known hn)
  have wk8 := wk7.new (o := .lst []) hn
  rw [← e] at ow8 wk8
  replace ow8 : Own H8 [hp, tx, an, fn, nn] [(un, urnO u2 sc k2), (kl, .lst []), (ca, .cell .unb), (sc, intL ns)] := ow8
  clear e hn ow7 wk7
  refine Ex.assignCell (ca := ca) (K1 := fun v H9 => ∃ ll, v = .ref ll ∧ H8 ll = none ∧ H9 = H8.set ll (.lst [])) (Ev.list .nil) rfl rfl ?_ ?_
  · rintro v H9 ⟨ll, rfl, hn, rfl⟩
    exact ⟨.unb, Hp.set_new hn ow8.tl.tl.h0⟩
  rintro v H9 ⟨ll, rfl, hn, e⟩
  have ow9 := ow8.newAt [_, _, _] _ (o := .lst []) hn (wk8.wd.known hn)
  have wk9 := wk8.new (o := .lst []) hn
  rw [← e] at ow9 wk9
  replace ow9 : Own H9 [hp, tx, an, fn, nn] [(un, urnO u2 sc k2), (kl, .lst []), (ca, .cell .unb), (ll, .lst []), (sc, intL ns)] := ow9
  clear e hn ow8 wk8
  have owA := ow9.put [_, _] _ (o' := .cell (.ref ll))
  have wkA := wk9.put (o' := .cell (.ref ll)) ow9.tl.tl.h0 ow9.tl.tl.o0 Mine'.cell
  generalize H9.set ca _ = HA at owA wkA ⊢
  replace owA : Own HA [hp, tx, an, fn, nn] [(un, urnO u2 sc k2), (kl, .lst []), (ca, .cell (.ref ll)), (ll, .lst []), (sc, intL ns)] := owA
  clear ow9 wk9
  refine Ex.assignK (Ev.list .nil) (by wtm_at "q_vat") ?_
  rintro v HB ⟨rl, rfl, hn, e⟩
  have owB := owA.newAt [_, _, _, _] _ (o := .lst []) hn (wkA.wd.known hn)
  have wkB := wkA.new (o := .lst []) hn
  rw [← e] at owB wkB
  replace owB : Own HB [hp, tx, an, fn, nn] [(un, urnO u2 sc k2), (kl, .lst []), (ca, .cell (.ref ll)), (ll, .lst []), (rl, .lst []), (sc, intL ns)] := owB
  clear e hn owA wkA
  refine Ex.assignK (Ev.list .nil) (by wtm_at "q_vat") ?_
  rintro v HC ⟨sl, rfl, hn, e⟩
  have owC := owB.newAt [_, _, _, _, _] _ (o := .lst []) hn (wkB.wd.known hn)
  have wkC := wkB.new (o := .lst []) hn
  rw [← e] at owC wkC
  replace owC : Own HC [hp, tx, an, fn, nn] [(un, urnO u2 sc k2), (kl, .lst []), (ca, .cell (.ref ll)), (ll, .lst []), (rl, .lst []), (sl, .lst []), (sc, intL ns)] := owC
  clear e hn owB wkB
  refine Ex.forRange (n := 3) (a := 0) (b := 3) (k := 1) (BJ ⟨st, sx, hp, sk, tr, bk, bx, tx, an, fn, nn, d0, d1⟩ un sc kl ca ll rl sl (0 - z) (1 + z2) ns v0) (RangeE.one rfl Ev.int) (by decide) (by decide) (by wtm_at "q_vat") ?_ ?_ ?_
  · refine ⟨.unb, .unb, .unb, .unb, .unb, u2, k2, [], [], [], _, T, F, rfl, owC, wkC, k20, k21, ⟨rfl, .nil, by simp [catS], by simp, by simp⟩, rfl, by simp⟩
  · rintro i N H hi ⟨v9, v10, v11, v12, v13, u, k, kv, lv, P, hs, T, F, rfl, S⟩
    rw [show (0 + (i : Int) * 1) = (i : Int) from by omega]
    refine (turn_is (t := i) (v10 := v10) (v11 := v11) (v12 := v12) (v13 := v13) S hz hi).mono ?_
    rintro fl N' H' ⟨rfl, h⟩
    exact h
  · rintro N H ⟨v9, v10, v11, v12, v13, u, k, kv, lv, P, hs, T, F, rfl, S⟩
    exact law_tail S (by omega)
end
section
-- T22
theorem law_run {w : World} {fa : Addr} {cd : Value} {g base : Heap} {s : Shared} {p : Program} {loose : List Str} {mean : ExcName → Option Value} {mg mb : Str → Option Value} {ob : Obj} {m : Str → Option Value} {ns : List Int} {vs : List Value} {a : Addr} {Q : Flow → Shared → Prop} {E : Value → Shared → Prop}
    (B : Below callerA base [] g) (X : (KF w.params).In g) (T : Top p loose mean mg mb g) (F : Fr g g.objs.size s.heap m) (hm : m (Str.ofString "script") = some (.ref a)) (Nw : News g g.objs.size s.heap [(g.objs.size + 1, ob)]) (hob : ob.data = .cell none) (hl : g.IsList a vs.toArray) (hI : IntsAre vs ns) (hz : ns.length ≤ 100000)
    (pe : PassesOwn (model PW w) (callerA.deeper (envX (Str.ofString "law") lawSc g.objs.size fa cd [(Str.ofString "levels", g.objs.size + 1)])) (envX (Str.ofString "law") lawSc g.objs.size fa cd [(Str.ofString "levels", g.objs.size + 1)]) E)
    (ret : ∀ h' tk' m', Fr g g.objs.size h' m' → Q (.ret (.bool true)) { s with heap := h', toks := tk' }) :
    wpAny (model PW w) (callerA.deeper (envX (Str.ofString "law") lawSc g.objs.size fa cd [(Str.ofString "levels", g.objs.size + 1)])) (execs lawBody (envX (Str.ofString "law") lawSc g.objs.size fa cd [(Str.ofString "levels", g.objs.size + 1)])) Q E s := by
  have ok : Cx.Ok w 10 (FL fa cd (g.objs.size + 1)) ⟨p, loose, mean, mg, mb, callerA.depth + 1, callerA.units + 3, some [], [], callerA, base, g, g.objs.size, []⟩ := ⟨B, X, T, by show callerA.depth + 1 ≤ 10 + 400; decide, by show callerA.units + 3 ≤ 10 * 10; decide, by decide, FL.good⟩
  have at0 : At w (FL fa cd (g.objs.size + 1)) ⟨p, loose, mean, mg, mb, callerA.depth + 1, callerA.units + 3, some [], [], callerA, base, g, g.objs.size, []⟩ [.ref a, .unb, .unb, .unb, .unb, .unb, .unb, .unb, .unb, .unb, .unb, .unb, .unb, .unb, .unb, .unb, .unb, .unb, .unb, .unb, .unb, .unb] (fun b => if b = g.objs.size + 1 then some (.cell .unb) else none) s.heap := by
    refine ⟨m, _, F, Nw, fun i x v hx hv hne => ?_, fun b o e => ?_, fun q hq => by cases hq⟩
    · match i, hx, hv with
      | 0, hx, hv => cases hx; cases hv; exact ⟨_, hm, .ref a⟩
      | i + 1, hx, hv =>
        exfalso
        have hv' : (List.replicate 21 SV.unb)[i]? = some v := hv
        rw [List.getElem?_replicate] at hv'
        split at hv'
        · cases hv'; exact hne rfl
        · cases hv'
    · by_cases hb : b = g.objs.size + 1
      · rw [if_pos hb] at e; cases e
        exact ⟨ob, by rw [hb]; exact List.mem_singleton.2 rfl, .cellU hob⟩
      · rw [if_neg hb] at e; cases e
  show wpAny (model PW w) (Cx.A ⟨p, loose, mean, mg, mb, callerA.depth + 1, callerA.units + 3, some [], [], callerA, base, g, g.objs.size, []⟩ (FL fa cd (g.objs.size + 1))) (execs _ (Cx.env ⟨p, loose, mean, mg, mb, callerA.depth + 1, callerA.units + 3, some [], [], callerA, base, g, g.objs.size, []⟩ (FL fa cd (g.objs.size + 1)))) Q E s
  with_unfolding_all show wpAny _ _ (execs (_ :: _) _) _ _ _
  refine Ex.first (K := fun fl N' H' => fl = .ret (.bool true)) (w := w) (d := 10) (f := FL fa cd (g.objs.size + 1)) (N := [.ref a, .unb, .unb, .unb, .unb, .unb, .unb, .unb, .unb, .unb, .unb, .unb, .unb, .unb, .unb, .unb, .unb, .unb, .unb, .unb, .unb, .unb]) (i := 1) (j := 0) (a := a) (by wtm_at "q_vat") (by wtm_at "q_vat") rfl hl hI hz ok pe at0 (fun D E' hD hE hne => ?_) ?_
  · have hnE : g.objs.size + 1 ≠ E' := fun q => by rw [← q, if_pos rfl] at hE; cases hE
    have hnD : g.objs.size + 1 ≠ D := fun q => by rw [← q, if_pos rfl] at hD; cases hD
    exact law_pre (ns := ns.take 60) (sc := D) (un := E') Hp.set_eq (Hp.set_ne hne Hp.set_eq) (Hp.set_ne hnE (Hp.set_ne hnD (if_pos rfl))) (Ne.symm hne) (by rw [List.length_take]; omega)
  · rintro fl y N' H' h' tk' rfl hF ⟨m', news', F', N2, _, _⟩
    cases hF with
    | ret hd => cases hd; exact ret h' tk' m' F'
end
end Mine
end
open PySem PySem.W PyProof.Rows PySem.Calls Mine
set_option maxRecDepth 100000 in
set_option maxHeartbeats 8000000 in
theorem PySem.Challenge.cw_rh0100_01_holds : PySem.Challenge.rw_rh0100_01.Holds := by
  w_on
  refine holds_law well_said fun said => ?_
  refine PySem.W.holds_open (q := viewP PySem.Challenge.pw_rh0100_01) (loose := [Str.ofString "Store"]) (Xt := Xt PySem.Challenge.pw_rh0100_01) (XP := XL (viewP PySem.Challenge.pw_rh0100_01) [])
    (Yf := Hook.obs (kHook KF KAs KAs_is)) (Ya := Hook.val (kHook KF KAs KAs_is)) (YP := Hook.says (kHook KF KAs KAs_is)) (N := 5000) ?hl (Hook.of (kHook KF KAs KAs_is)) (Hook.keeps (kHook KF KAs KAs_is))
    (fun s e => xl_of s (Bool.and_eq_true_iff.mp e).1) XL.keeps (by rfl) (by rfl) (by rfl) (fun s e => recFacts_of (Bool.and_eq_true_iff.mp e).2) (by rfl) (by first | assumption | decide +kernel) (by decide +kernel) ⟨rfl, rfl, rfl, rfl, rfl, by decide +kernel⟩ ?hw ?hc
  case hl => exact left
  case hw => w_witness2
  case hc =>
    k_fill
    intro w s₀ s₁ mg mb G Y fa o pm cd doc dV kV ho hd hcd hD hmg hg args vals as hpre hlay hrd hwl hlo
    have KX := kIn_of Y
    have X := (Ground.X G).1
    have V := (Ground.X G).2
    refine Ground.open G ?_
    intro T B D TE TW
    try (refine guard_noD D (by decide +kernel) ?_; clear D)
    clear hmg
    wrow_args hpre hlay hrd hwl hlo
    all_goals (
      first | refine callC_kw (enter_call ?_) | refine enter_call ?_ | refine callC_kw (enter_callW ?_) | refine enter_callW ?_
      w_top on
      try refine codeAny_mono ?_ (fun _ _ g => GoodW.toG g)
      have K0 := below_caller (Top.heap T)
      w_call any ho hd hcd hD T F
      clear hd
      k_drop
      skip)
    have hB : Below callerA _ [] _ := (by assumption)
    have hX := (by assumption : (KF _).In _)
    rename Top _ _ _ _ _ _ => hT
    rename Fr _ _ _ _ => hF
    rename News _ _ _ _ => hNw
    rename Obj => ob
    rename ob.data = _ => hob
    rename Heap.IsList _ _ _ => hL
    rename IntsAre _ _ => hI
    rename ¬ _ < _ => hz
    refine law_run hB hX hT hF rfl hNw (hob.trans rfl) hL hI (by omega) PassesOwn.leaving ?_
    intro h' tk' m' hF'
    refine ⟨.inl ⟨.bool true, _, [], rfl, fun _ => rfl, ReadsW.bool true, ?_, fun _ => ⟨List.nodup_nil, fun _ hm => (nomatch hm)⟩⟩, hF'.keep, rfl, by assumption⟩
    first | exact postW_of (X := true) (by rfl) (by rfl) rfl | wrow_post
