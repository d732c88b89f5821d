import PyProof.Rows.All
import Wide.All
import OpenK.AllK
import Wide.FinOn
import PySem.Challenge.RW_nt0548_01
set_option Elab.async false
set_option linter.all false
set_option compiler.extract_closed false
namespace Mine
section
open PySem PySem.W PyProof.Rows
set_option maxRecDepth 100000
set_option maxHeartbeats 8000000
/-- a statement of a body, by its place -/
noncomputable def stmtK (l : List Stmt) (k : Nat) : Stmt := match l, k with
  | [], _ => .Pass ⟨0, 0, 0, 0⟩
  | s :: _, 0 => s
  | _ :: l, k + 1 => stmtK l k
noncomputable def argsOf : Stmt → Arguments
  | .FunctionDef _ a .. => a
  | _ => default
noncomputable def bodyOf : Stmt → List Stmt
  | .FunctionDef _ _ b .. => b
  | .ClassDef _ _ _ b .. => b
  | _ => []
noncomputable def scopeOf : Stmt → Scope
  | .FunctionDef _ _ _ _ _ _ s .. => s
  | .ClassDef _ _ _ _ _ _ s .. => s
  | _ => default
noncomputable abbrev topB : List Stmt := PySem.Challenge.pw_nt0548_01.main.body
noncomputable abbrev fdK (k : Nat) : Stmt := stmtK topB k
noncomputable abbrev fdC (k j : Nat) : Stmt := stmtK (bodyOf (fdK k)) j
/-- the text's defs and classes -/
noncomputable def view : Program := { PySem.Challenge.pw_nt0548_01 with main := { PySem.Challenge.pw_nt0548_01.main with body := [fdK 1, fdK 2, fdK 3, fdK 5, fdK 6, fdK 7, fdK 8, fdK 9, fdK 10, fdK 11, fdK 14, fdK 15, fdK 16, fdK 17, fdK 18, fdK 20, fdK 21, fdK 22, fdK 23, fdK 24] } }
noncomputable def o28 : Obj := (fun x (_ : x = { cls := Value.type "function", data := Data.func { name := Str.ofString "__init__", qualname := Str.ofString "PressError.__init__", params := argsOf (fdC 1 0), body := FuncBody.stmts (bodyOf (fdC 1 0)), scope := scopeOf (fdC 1 0), globals := 3, closure := [], defaults := Value.none, kwdefaults := Value.none, pyModule := Value.str (Str.ofString "pixelpress.errors") 187, code := Value.ref 27 } }) => x) _ (by dsimp only [fdK, fdC, topB, stmtK, bodyOf, argsOf, scopeOf, PySem.Challenge.pw_nt0548_01]; first | done | exact rfl)
noncomputable def o65 : Obj := (fun x (_ : x = { cls := Value.type "function", data := Data.func { name := Str.ofString "merged", qualname := Str.ofString "merged", params := argsOf (fdK 7), body := FuncBody.stmts (bodyOf (fdK 7)), scope := scopeOf (fdK 7), globals := 3, closure := [], defaults := Value.none, kwdefaults := Value.none, pyModule := Value.str (Str.ofString "pixelpress.huffman_build") 250, code := Value.ref 64 } }) => x) _ (by dsimp only [fdK, fdC, topB, stmtK, bodyOf, argsOf, scopeOf, PySem.Challenge.pw_nt0548_01]; first | done | exact rfl)
noncomputable def o72 : Obj := (fun x (_ : x = { cls := Value.type "function", data := Data.func { name := Str.ofString "packed", qualname := Str.ofString "packed", params := argsOf (fdK 8), body := FuncBody.stmts (bodyOf (fdK 8)), scope := scopeOf (fdK 8), globals := 3, closure := [], defaults := Value.none, kwdefaults := Value.none, pyModule := Value.str (Str.ofString "pixelpress.huffman_build") 250, code := Value.ref 71 } }) => x) _ (by dsimp only [fdK, fdC, topB, stmtK, bodyOf, argsOf, scopeOf, PySem.Challenge.pw_nt0548_01]; first | done | exact rfl)
noncomputable def o77 : Obj := (fun x (_ : x = { cls := Value.type "function", data := Data.func { name := Str.ofString "by_worth", qualname := Str.ofString "by_worth", params := argsOf (fdK 9), body := FuncBody.stmts (bodyOf (fdK 9)), scope := scopeOf (fdK 9), globals := 3, closure := [], defaults := Value.none, kwdefaults := Value.none, pyModule := Value.str (Str.ofString "pixelpress.huffman_build") 250, code := Value.ref 76 } }) => x) _ (by dsimp only [fdK, fdC, topB, stmtK, bodyOf, argsOf, scopeOf, PySem.Challenge.pw_nt0548_01]; first | done | exact rfl)
noncomputable def o84 : Obj := (fun x (_ : x = { cls := Value.type "function", data := Data.func { name := Str.ofString "best_sizes", qualname := Str.ofString "best_sizes", params := argsOf (fdK 10), body := FuncBody.stmts (bodyOf (fdK 10)), scope := scopeOf (fdK 10), globals := 3, closure := [], defaults := Value.none, kwdefaults := Value.none, pyModule := Value.str (Str.ofString "pixelpress.huffman_build") 250, code := Value.ref 83 } }) => x) _ (by dsimp only [fdK, fdC, topB, stmtK, bodyOf, argsOf, scopeOf, PySem.Challenge.pw_nt0548_01]; first | done | exact rfl)
noncomputable def o89 : Obj := (fun x (_ : x = { cls := Value.type "function", data := Data.func { name := Str.ofString "table_of", qualname := Str.ofString "table_of", params := argsOf (fdK 11), body := FuncBody.stmts (bodyOf (fdK 11)), scope := scopeOf (fdK 11), globals := 3, closure := [], defaults := Value.none, kwdefaults := Value.none, pyModule := Value.str (Str.ofString "pixelpress.huffman_build") 250, code := Value.ref 88 } }) => x) _ (by dsimp only [fdK, fdC, topB, stmtK, bodyOf, argsOf, scopeOf, PySem.Challenge.pw_nt0548_01]; first | done | exact rfl)
noncomputable def o97 : Obj := (fun x (_ : x = { cls := Value.type "function", data := Data.func { name := Str.ofString "best_table", qualname := Str.ofString "best_table", params := argsOf (fdK 12), body := FuncBody.stmts (bodyOf (fdK 12)), scope := scopeOf (fdK 12), globals := 3, closure := [], defaults := Value.ref 90, kwdefaults := Value.none, pyModule := Value.str (Str.ofString "pixelpress.huffman_build") 250, code := Value.ref 96 } }) => x) _ (by dsimp only [fdK, fdC, topB, stmtK, bodyOf, argsOf, scopeOf, PySem.Challenge.pw_nt0548_01]; first | done | exact rfl)
noncomputable def o104 : Obj := (fun x (_ : x = { cls := Value.type "function", data := Data.func { name := Str.ofString "code_rows", qualname := Str.ofString "code_rows", params := argsOf (fdK 16), body := FuncBody.stmts (bodyOf (fdK 16)), scope := scopeOf (fdK 16), globals := 3, closure := [], defaults := Value.none, kwdefaults := Value.none, pyModule := Value.str (Str.ofString "pixelpress.huffman") 314, code := Value.ref 103 } }) => x) _ (by dsimp only [fdK, fdC, topB, stmtK, bodyOf, argsOf, scopeOf, PySem.Challenge.pw_nt0548_01]; first | done | exact rfl)
noncomputable def o111 : Obj := (fun x (_ : x = { cls := Value.type "function", data := Data.func { name := Str.ofString "check_told", qualname := Str.ofString "check_told", params := argsOf (fdK 17), body := FuncBody.stmts (bodyOf (fdK 17)), scope := scopeOf (fdK 17), globals := 3, closure := [], defaults := Value.none, kwdefaults := Value.none, pyModule := Value.str (Str.ofString "pixelpress.huffman") 314, code := Value.ref 110 } }) => x) _ (by dsimp only [fdK, fdC, topB, stmtK, bodyOf, argsOf, scopeOf, PySem.Challenge.pw_nt0548_01]; first | done | exact rfl)
noncomputable def o125 : Obj := (fun x (_ : x = { cls := Value.type "function", data := Data.func { name := Str.ofString "__init__", qualname := Str.ofString "HuffTable.__init__", params := argsOf (fdC 18 0), body := FuncBody.stmts (bodyOf (fdC 18 0)), scope := scopeOf (fdC 18 0), globals := 3, closure := [], defaults := Value.none, kwdefaults := Value.none, pyModule := Value.str (Str.ofString "pixelpress.huffman") 314, code := Value.ref 124 } }) => x) _ (by dsimp only [fdK, fdC, topB, stmtK, bodyOf, argsOf, scopeOf, PySem.Challenge.pw_nt0548_01]; first | done | exact rfl)
noncomputable def o132 : Obj := (fun x (_ : x = { cls := Value.type "function", data := Data.func { name := Str.ofString "code", qualname := Str.ofString "HuffTable.code", params := argsOf (fdC 18 1), body := FuncBody.stmts (bodyOf (fdC 18 1)), scope := scopeOf (fdC 18 1), globals := 3, closure := [], defaults := Value.none, kwdefaults := Value.none, pyModule := Value.str (Str.ofString "pixelpress.huffman") 314, code := Value.ref 131 } }) => x) _ (by dsimp only [fdK, fdC, topB, stmtK, bodyOf, argsOf, scopeOf, PySem.Challenge.pw_nt0548_01]; first | done | exact rfl)
noncomputable def o139 : Obj := (fun x (_ : x = { cls := Value.type "function", data := Data.func { name := Str.ofString "read", qualname := Str.ofString "HuffTable.read", params := argsOf (fdC 18 2), body := FuncBody.stmts (bodyOf (fdC 18 2)), scope := scopeOf (fdC 18 2), globals := 3, closure := [], defaults := Value.none, kwdefaults := Value.none, pyModule := Value.str (Str.ofString "pixelpress.huffman") 314, code := Value.ref 138 } }) => x) _ (by dsimp only [fdK, fdC, topB, stmtK, bodyOf, argsOf, scopeOf, PySem.Challenge.pw_nt0548_01]; first | done | exact rfl)
noncomputable def o153 : Obj := (fun x (_ : x = { cls := Value.type "function", data := Data.func { name := Str.ofString "_law_pool", qualname := Str.ofString "_law_pool", params := argsOf (fdK 20), body := FuncBody.stmts (bodyOf (fdK 20)), scope := scopeOf (fdK 20), globals := 3, closure := [], defaults := Value.none, kwdefaults := Value.none, pyModule := Value.str (Str.ofString "law_nt0548_01") 401, code := Value.ref 152 } }) => x) _ (by dsimp only [fdK, fdC, topB, stmtK, bodyOf, argsOf, scopeOf, PySem.Challenge.pw_nt0548_01]; first | done | exact rfl)
noncomputable def o160 : Obj := (fun x (_ : x = { cls := Value.type "function", data := Data.func { name := Str.ofString "_law_take", qualname := Str.ofString "_law_take", params := argsOf (fdK 21), body := FuncBody.stmts (bodyOf (fdK 21)), scope := scopeOf (fdK 21), globals := 3, closure := [], defaults := Value.none, kwdefaults := Value.none, pyModule := Value.str (Str.ofString "law_nt0548_01") 401, code := Value.ref 159 } }) => x) _ (by dsimp only [fdK, fdC, topB, stmtK, bodyOf, argsOf, scopeOf, PySem.Challenge.pw_nt0548_01]; first | done | exact rfl)
noncomputable def o165 : Obj := (fun x (_ : x = { cls := Value.type "function", data := Data.func { name := Str.ofString "_law_cheapest", qualname := Str.ofString "_law_cheapest", params := argsOf (fdK 22), body := FuncBody.stmts (bodyOf (fdK 22)), scope := scopeOf (fdK 22), globals := 3, closure := [], defaults := Value.none, kwdefaults := Value.none, pyModule := Value.str (Str.ofString "law_nt0548_01") 401, code := Value.ref 164 } }) => x) _ (by dsimp only [fdK, fdC, topB, stmtK, bodyOf, argsOf, scopeOf, PySem.Challenge.pw_nt0548_01]; first | done | exact rfl)
noncomputable def o172 : Obj := (fun x (_ : x = { cls := Value.type "function", data := Data.func { name := Str.ofString "_law_edges_right", qualname := Str.ofString "_law_edges_right", params := argsOf (fdK 23), body := FuncBody.stmts (bodyOf (fdK 23)), scope := scopeOf (fdK 23), globals := 3, closure := [], defaults := Value.none, kwdefaults := Value.none, pyModule := Value.str (Str.ofString "law_nt0548_01") 401, code := Value.ref 171 } }) => x) _ (by dsimp only [fdK, fdC, topB, stmtK, bodyOf, argsOf, scopeOf, PySem.Challenge.pw_nt0548_01]; first | done | exact rfl)
noncomputable def o177 : Obj := (fun x (_ : x = { cls := Value.type "function", data := Data.func { name := Str.ofString "law", qualname := Str.ofString "law", params := argsOf (fdK 24), body := FuncBody.stmts (bodyOf (fdK 24)), scope := scopeOf (fdK 24), globals := 3, closure := [], defaults := Value.none, kwdefaults := Value.none, pyModule := Value.str (Str.ofString "law_nt0548_01") 401, code := Value.ref 176 } }) => x) _ (by dsimp only [fdK, fdC, topB, stmtK, bodyOf, argsOf, scopeOf, PySem.Challenge.pw_nt0548_01]; first | done | exact rfl)
/-- what stands in memory behind the top: the objects that the walk looks at -/
noncomputable def heap (P : Params) : Frag :=
    (nat_lit 2, { cls := Value.none, data := Data.dict #[{ hash := PyData.keyHash P (Str.ofString "type.__subclasses__.Exception.0"), key := Value.str (Str.ofString "type.__subclasses__.Exception.0") 214, val := Value.int 31 0 }, { hash := PyData.keyHash P (Str.ofString "type.__subclasses__.Exception.n"), key := Value.str (Str.ofString "type.__subclasses__.Exception.n") 215, val := Value.int 1 0 }] 2 }) ::
    (nat_lit 3, { cls := Value.type "dict", data := Data.dict #[{ hash := PyData.keyHash P (Str.ofString "__name__"), key := Value.str (Str.ofString "__name__") 165, val := Value.str (Str.ofString "law_nt0548_01") 401 }, { hash := PyData.keyHash P (Str.ofString "__doc__"), key := Value.str (Str.ofString "__doc__") 166, val := Value.none }, { hash := PyData.keyHash P (Str.ofString "__package__"), key := Value.str (Str.ofString "__package__") 167, val := Value.none }, { hash := PyData.keyHash P (Str.ofString "__loader__"), key := Value.str (Str.ofString "__loader__") 168, val := Value.builtin "__main__.__loader__#opaque" }, { hash := PyData.keyHash P (Str.ofString "__spec__"), key := Value.str (Str.ofString "__spec__") 169, val := Value.none }, { hash := PyData.keyHash P (Str.ofString "__annotations__"), key := Value.str (Str.ofString "__annotations__") 170, val := Value.ref 6 }, { hash := PyData.keyHash P (Str.ofString "__builtins__"), key := Value.str (Str.ofString "__builtins__") 171, val := Value.ref 4 }, { hash := PyData.keyHash P (Str.ofString "__file__"), key := Value.str (Str.ofString "__file__") 173, val := Value.str (Str.ofString "/claim/cut.py") 172 }, { hash := PyData.keyHash P (Str.ofString "__cached__"), key := Value.str (Str.ofString "__cached__") 174, val := Value.none }, { hash := PyData.keyHash P (Str.ofString "PressError"), key := Value.str (Str.ofString "PressError") 217, val := Value.ref 31 }, { hash := PyData.keyHash P (Str.ofString "TableError"), key := Value.str (Str.ofString "TableError") 233, val := Value.ref 44 }, { hash := PyData.keyHash P (Str.ofString "CodeError"), key := Value.str (Str.ofString "CodeError") 249, val := Value.ref 56 }, { hash := PyData.keyHash P (Str.ofString "MOST_BITS_huffman_build"), key := Value.str (Str.ofString "MOST_BITS_huffman_build") 253, val := Value.int 16 252 }, { hash := PyData.keyHash P (Str.ofString "NOBODY"), key := Value.str (Str.ofString "NOBODY") 256, val := Value.int (-1) 255 }, { hash := PyData.keyHash P (Str.ofString "merged"), key := Value.str (Str.ofString "merged") 267, val := Value.ref 65 }, { hash := PyData.keyHash P (Str.ofString "packed"), key := Value.str (Str.ofString "packed") 278, val := Value.ref 72 }, { hash := PyData.keyHash P (Str.ofString "by_worth"), key := Value.str (Str.ofString "by_worth") 284, val := Value.ref 77 }, { hash := PyData.keyHash P (Str.ofString "best_sizes"), key := Value.str (Str.ofString "best_sizes") 299, val := Value.ref 84 }, { hash := PyData.keyHash P (Str.ofString "table_of"), key := Value.str (Str.ofString "table_of") 305, val := Value.ref 89 }, { hash := PyData.keyHash P (Str.ofString "best_table"), key := Value.str (Str.ofString "best_table") 313, val := Value.ref 97 }, { hash := PyData.keyHash P (Str.ofString "MOST_BITS_huffman"), key := Value.str (Str.ofString "MOST_BITS_huffman") 317, val := Value.int 16 316 }, { hash := PyData.keyHash P (Str.ofString "MOST_SYMBOLS"), key := Value.str (Str.ofString "MOST_SYMBOLS") 319, val := Value.int 256 318 }, { hash := PyData.keyHash P (Str.ofString "code_rows"), key := Value.str (Str.ofString "code_rows") 331, val := Value.ref 104 }, { hash := PyData.keyHash P (Str.ofString "check_told"), key := Value.str (Str.ofString "check_told") 341, val := Value.ref 111 }, { hash := PyData.keyHash P (Str.ofString "HuffTable"), key := Value.str (Str.ofString "HuffTable") 400, val := Value.ref 142 }, { hash := PyData.keyHash P (Str.ofString "_law_pool"), key := Value.str (Str.ofString "_law_pool") 412, val := Value.ref 153 }, { hash := PyData.keyHash P (Str.ofString "_law_take"), key := Value.str (Str.ofString "_law_take") 421, val := Value.ref 160 }, { hash := PyData.keyHash P (Str.ofString "_law_cheapest"), key := Value.str (Str.ofString "_law_cheapest") 427, val := Value.ref 165 }, { hash := PyData.keyHash P (Str.ofString "_law_edges_right"), key := Value.str (Str.ofString "_law_edges_right") 436, val := Value.ref 172 }, { hash := PyData.keyHash P (Str.ofString "law"), key := Value.str (Str.ofString "law") 442, val := Value.ref 177 }] 30 }) ::
    (nat_lit 15, { cls := Value.type "tuple", data := Data.seq #[Value.type "Exception"] }) ::
    (nat_lit 22, { cls := Value.type "tuple", data := Data.seq #[] }) ::
    (nat_lit 24, { cls := Value.type "tuple", data := Data.seq #[Value.str (Str.ofString "self") 204, Value.str (Str.ofString "message") 205] }) ::
    (nat_lit 25, { cls := Value.type "tuple", data := Data.seq #[] }) ::
    (nat_lit 27, { cls := Value.type "code", data := Data.fields #[Value.str (Str.ofString "__init__") 201, Value.str (Str.ofString "PressError.__init__") 202, Value.str (Str.ofString "/claim/cut.py") 203, Value.int 4 0, Value.int 2 0, Value.int 0 0, Value.int 0 0, Value.int 3 0, Value.ref 22, Value.bool true, Value.int 181 0, Value.ref 23, Value.none, Value.ref 24, Value.ref 25, Value.ref 26, Value.int 206 0, Value.int 4 0, Value.str (Str.ofString "/claim/cut.py") 207] }) ::
    (nat_lit 28, o28) ::
    (nat_lit 29, { cls := Value.type "tuple", data := Data.seq #[Value.str (Str.ofString "message") 209] }) ::
    (nat_lit 30, { cls := Value.type "dict", data := Data.dict #[{ hash := PyData.keyHash P (Str.ofString "__module__"), key := Value.str (Str.ofString "__module__") 196, val := Value.str (Str.ofString "pixelpress.errors") 187 }, { hash := PyData.keyHash P (Str.ofString "__firstlineno__"), key := Value.str (Str.ofString "__firstlineno__") 200, val := Value.int 2 199 }, { hash := PyData.keyHash P (Str.ofString "__init__"), key := Value.str (Str.ofString "__init__") 208, val := Value.ref 28 }, { hash := PyData.keyHash P (Str.ofString "__static_attributes__"), key := Value.str (Str.ofString "__static_attributes__") 210, val := Value.ref 29 }, { hash := PyData.keyHash P (Str.ofString "__weakref__"), key := Value.str (Str.ofString "__weakref__") 212, val := Value.ref 32 }, { hash := PyData.keyHash P (Str.ofString "__doc__"), key := Value.str (Str.ofString "__doc__") 213, val := Value.none }] 3 }) ::
    (nat_lit 31, { cls := Value.type "type", data := Data.cls { name := Str.ofString "PressError", bases := [Value.type "Exception"], mro := [Value.ref 31, Value.type "Exception", Value.type "BaseException", Value.type "object"], ns := 30, qualname := Str.ofString "PressError", subclasses := [Value.ref 44, Value.ref 56] }, slots := #[some (Value.ref 15), none, some (Value.str (Str.ofString "PressError") 189), some (Value.str (Str.ofString "PressError") 197), some (Value.builtin "Exception.__new__"), some (Value.bool true)] }) ::
    (nat_lit 32, { cls := Value.type "getset_descriptor", data := Data.fields #[Value.str (Str.ofString "__weakref__") 211, Value.ref 31, Value.builtin "ExceptionGroup.__weakref__", Value.none] }) ::
    (nat_lit 35, { cls := Value.type "tuple", data := Data.seq #[Value.ref 31] }) ::
    (nat_lit 42, { cls := Value.type "tuple", data := Data.seq #[] }) ::
    (nat_lit 43, { cls := Value.type "dict", data := Data.dict #[{ hash := PyData.keyHash P (Str.ofString "__module__"), key := Value.str (Str.ofString "__module__") 225, val := Value.str (Str.ofString "pixelpress.errors") 187 }, { hash := PyData.keyHash P (Str.ofString "__firstlineno__"), key := Value.str (Str.ofString "__firstlineno__") 229, val := Value.int 7 228 }, { hash := PyData.keyHash P (Str.ofString "__static_attributes__"), key := Value.str (Str.ofString "__static_attributes__") 230, val := Value.ref 42 }, { hash := PyData.keyHash P (Str.ofString "__doc__"), key := Value.str (Str.ofString "__doc__") 231, val := Value.none }] 2 }) ::
    (nat_lit 44, { cls := Value.type "type", data := Data.cls { name := Str.ofString "TableError", bases := [Value.ref 31], mro := [Value.ref 44, Value.ref 31, Value.type "Exception", Value.type "BaseException", Value.type "object"], ns := 43, qualname := Str.ofString "TableError" }, slots := #[some (Value.ref 35), none, some (Value.str (Str.ofString "TableError") 218), some (Value.str (Str.ofString "TableError") 226), some (Value.builtin "Exception.__new__"), some (Value.bool true)] }) ::
    (nat_lit 47, { cls := Value.type "tuple", data := Data.seq #[Value.ref 31] }) ::
    (nat_lit 54, { cls := Value.type "tuple", data := Data.seq #[] }) ::
    (nat_lit 55, { cls := Value.type "dict", data := Data.dict #[{ hash := PyData.keyHash P (Str.ofString "__module__"), key := Value.str (Str.ofString "__module__") 241, val := Value.str (Str.ofString "pixelpress.errors") 187 }, { hash := PyData.keyHash P (Str.ofString "__firstlineno__"), key := Value.str (Str.ofString "__firstlineno__") 245, val := Value.int 9 244 }, { hash := PyData.keyHash P (Str.ofString "__static_attributes__"), key := Value.str (Str.ofString "__static_attributes__") 246, val := Value.ref 54 }, { hash := PyData.keyHash P (Str.ofString "__doc__"), key := Value.str (Str.ofString "__doc__") 247, val := Value.none }] 2 }) ::
    (nat_lit 56, { cls := Value.type "type", data := Data.cls { name := Str.ofString "CodeError", bases := [Value.ref 31], mro := [Value.ref 56, Value.ref 31, Value.type "Exception", Value.type "BaseException", Value.type "object"], ns := 55, qualname := Str.ofString "CodeError" }, slots := #[some (Value.ref 47), none, some (Value.str (Str.ofString "CodeError") 234), some (Value.str (Str.ofString "CodeError") 242), some (Value.builtin "Exception.__new__"), some (Value.bool true)] }) ::
    (nat_lit 59, { cls := Value.type "tuple", data := Data.seq #[] }) ::
    (nat_lit 61, { cls := Value.type "tuple", data := Data.seq #[Value.str (Str.ofString "coins") 260, Value.str (Str.ofString "packs") 261, Value.str (Str.ofString "found") 262, Value.str (Str.ofString "at") 263, Value.str (Str.ofString "to") 264] }) ::
    (nat_lit 62, { cls := Value.type "tuple", data := Data.seq #[] }) ::
    (nat_lit 64, { cls := Value.type "code", data := Data.fields #[Value.str (Str.ofString "merged") 257, Value.str (Str.ofString "merged") 258, Value.str (Str.ofString "/claim/cut.py") 259, Value.int 14 0, Value.int 2 0, Value.int 0 0, Value.int 0 0, Value.int 3 0, Value.ref 59, Value.bool true, Value.int 181 0, Value.ref 60, Value.none, Value.ref 61, Value.ref 62, Value.ref 63, Value.int 265 0, Value.int 14 0, Value.str (Str.ofString "/claim/cut.py") 266] }) ::
    (nat_lit 65, o65) ::
    (nat_lit 66, { cls := Value.type "tuple", data := Data.seq #[] }) ::
    (nat_lit 68, { cls := Value.type "tuple", data := Data.seq #[Value.str (Str.ofString "coins") 271, Value.str (Str.ofString "found") 272, Value.str (Str.ofString "k") 273, Value.str (Str.ofString "one") 274, Value.str (Str.ofString "other") 275] }) ::
    (nat_lit 69, { cls := Value.type "tuple", data := Data.seq #[] }) ::
    (nat_lit 71, { cls := Value.type "code", data := Data.fields #[Value.str (Str.ofString "packed") 268, Value.str (Str.ofString "packed") 269, Value.str (Str.ofString "/claim/cut.py") 270, Value.int 25 0, Value.int 1 0, Value.int 0 0, Value.int 0 0, Value.int 3 0, Value.ref 66, Value.bool true, Value.int 181 0, Value.ref 67, Value.none, Value.ref 68, Value.ref 69, Value.ref 70, Value.int 276 0, Value.int 25 0, Value.str (Str.ofString "/claim/cut.py") 277] }) ::
    (nat_lit 72, o72) ::
    (nat_lit 73, { cls := Value.type "tuple", data := Data.seq #[] }) ::
    (nat_lit 76, { cls := Value.type "code", data := Data.fields #[Value.str (Str.ofString "by_worth") 279, Value.str (Str.ofString "by_worth") 280, Value.str (Str.ofString "/claim/cut.py") 281, Value.int 31 0, Value.int 1 0, Value.int 0 0, Value.int 0 0, Value.int 3 0, Value.ref 73, Value.bool true, Value.int 181 0, Value.ref 74, Value.none, Value.none, Value.none, Value.ref 75, Value.int 282 0, Value.int 31 0, Value.str (Str.ofString "/claim/cut.py") 283] }) ::
    (nat_lit 77, o77) ::
    (nat_lit 78, { cls := Value.type "tuple", data := Data.seq #[] }) ::
    (nat_lit 80, { cls := Value.type "tuple", data := Data.seq #[Value.str (Str.ofString "frequencies") 288, Value.str (Str.ofString "most") 289, Value.str (Str.ofString "coins") 290, Value.str (Str.ofString "row") 291, Value.str (Str.ofString "turn") 292, Value.str (Str.ofString "sizes") 293, Value.str (Str.ofString "worth") 294, Value.str (Str.ofString "symbols") 295, Value.str (Str.ofString "symbol") 296] }) ::
    (nat_lit 81, { cls := Value.type "tuple", data := Data.seq #[] }) ::
    (nat_lit 83, { cls := Value.type "code", data := Data.fields #[Value.str (Str.ofString "best_sizes") 285, Value.str (Str.ofString "best_sizes") 286, Value.str (Str.ofString "/claim/cut.py") 287, Value.int 34 0, Value.int 2 0, Value.int 0 0, Value.int 0 0, Value.int 3 0, Value.ref 78, Value.bool true, Value.int 181 0, Value.ref 79, Value.none, Value.ref 80, Value.ref 81, Value.ref 82, Value.int 297 0, Value.int 34 0, Value.str (Str.ofString "/claim/cut.py") 298] }) ::
    (nat_lit 84, o84) ::
    (nat_lit 85, { cls := Value.type "tuple", data := Data.seq #[] }) ::
    (nat_lit 88, { cls := Value.type "code", data := Data.fields #[Value.str (Str.ofString "table_of") 300, Value.str (Str.ofString "table_of") 301, Value.str (Str.ofString "/claim/cut.py") 302, Value.int 50 0, Value.int 1 0, Value.int 0 0, Value.int 0 0, Value.int 3 0, Value.ref 85, Value.bool true, Value.int 181 0, Value.ref 86, Value.none, Value.none, Value.none, Value.ref 87, Value.int 303 0, Value.int 50 0, Value.str (Str.ofString "/claim/cut.py") 304] }) ::
    (nat_lit 89, o89) ::
    (nat_lit 90, { cls := Value.type "tuple", data := Data.seq #[Value.int 16 252] }) ::
    (nat_lit 91, { cls := Value.type "tuple", data := Data.seq #[] }) ::
    (nat_lit 93, { cls := Value.type "tuple", data := Data.seq #[Value.str (Str.ofString "frequencies") 309, Value.str (Str.ofString "most") 310] }) ::
    (nat_lit 94, { cls := Value.type "tuple", data := Data.seq #[] }) ::
    (nat_lit 96, { cls := Value.type "code", data := Data.fields #[Value.str (Str.ofString "best_table") 306, Value.str (Str.ofString "best_table") 307, Value.str (Str.ofString "/claim/cut.py") 308, Value.int 56 0, Value.int 2 0, Value.int 0 0, Value.int 0 0, Value.int 3 0, Value.ref 91, Value.bool true, Value.int 181 0, Value.ref 92, Value.none, Value.ref 93, Value.ref 94, Value.ref 95, Value.int 311 0, Value.int 56 0, Value.str (Str.ofString "/claim/cut.py") 312] }) ::
    (nat_lit 97, o97) ::
    (nat_lit 98, { cls := Value.type "tuple", data := Data.seq #[] }) ::
    (nat_lit 100, { cls := Value.type "tuple", data := Data.seq #[Value.str (Str.ofString "counts") 323, Value.str (Str.ofString "rows") 324, Value.str (Str.ofString "code") 325, Value.str (Str.ofString "place") 326, Value.str (Str.ofString "size") 327, Value.str (Str.ofString "many") 328] }) ::
    (nat_lit 101, { cls := Value.type "tuple", data := Data.seq #[] }) ::
    (nat_lit 103, { cls := Value.type "code", data := Data.fields #[Value.str (Str.ofString "code_rows") 320, Value.str (Str.ofString "code_rows") 321, Value.str (Str.ofString "/claim/cut.py") 322, Value.int 61 0, Value.int 1 0, Value.int 0 0, Value.int 0 0, Value.int 3 0, Value.ref 98, Value.bool true, Value.int 181 0, Value.ref 99, Value.none, Value.ref 100, Value.ref 101, Value.ref 102, Value.int 329 0, Value.int 61 0, Value.str (Str.ofString "/claim/cut.py") 330] }) ::
    (nat_lit 104, o104) ::
    (nat_lit 105, { cls := Value.type "tuple", data := Data.seq #[] }) ::
    (nat_lit 107, { cls := Value.type "tuple", data := Data.seq #[Value.str (Str.ofString "counts") 335, Value.str (Str.ofString "symbols") 336, Value.str (Str.ofString "met") 337, Value.str (Str.ofString "symbol") 338] }) ::
    (nat_lit 108, { cls := Value.type "tuple", data := Data.seq #[] }) ::
    (nat_lit 110, { cls := Value.type "code", data := Data.fields #[Value.str (Str.ofString "check_told") 332, Value.str (Str.ofString "check_told") 333, Value.str (Str.ofString "/claim/cut.py") 334, Value.int 73 0, Value.int 2 0, Value.int 0 0, Value.int 0 0, Value.int 3 0, Value.ref 105, Value.bool true, Value.int 181 0, Value.ref 106, Value.none, Value.ref 107, Value.ref 108, Value.ref 109, Value.int 339 0, Value.int 73 0, Value.str (Str.ofString "/claim/cut.py") 340] }) ::
    (nat_lit 111, o111) ::
    (nat_lit 119, { cls := Value.type "tuple", data := Data.seq #[] }) ::
    (nat_lit 121, { cls := Value.type "tuple", data := Data.seq #[Value.str (Str.ofString "self") 357, Value.str (Str.ofString "counts") 358, Value.str (Str.ofString "symbols") 359, Value.str (Str.ofString "size") 360, Value.str (Str.ofString "first") 361, Value.str (Str.ofString "many") 362, Value.str (Str.ofString "place") 363, Value.str (Str.ofString "k") 364] }) ::
    (nat_lit 122, { cls := Value.type "tuple", data := Data.seq #[] }) ::
    (nat_lit 124, { cls := Value.type "code", data := Data.fields #[Value.str (Str.ofString "__init__") 354, Value.str (Str.ofString "HuffTable.__init__") 355, Value.str (Str.ofString "/claim/cut.py") 356, Value.int 85 0, Value.int 3 0, Value.int 0 0, Value.int 0 0, Value.int 3 0, Value.ref 119, Value.bool true, Value.int 181 0, Value.ref 120, Value.none, Value.ref 121, Value.ref 122, Value.ref 123, Value.int 365 0, Value.int 85 0, Value.str (Str.ofString "/claim/cut.py") 366] }) ::
    (nat_lit 125, o125) ::
    (nat_lit 126, { cls := Value.type "tuple", data := Data.seq #[] }) ::
    (nat_lit 128, { cls := Value.type "tuple", data := Data.seq #[Value.str (Str.ofString "self") 371, Value.str (Str.ofString "symbol") 372, Value.str (Str.ofString "found") 373] }) ::
    (nat_lit 129, { cls := Value.type "tuple", data := Data.seq #[] }) ::
    (nat_lit 131, { cls := Value.type "code", data := Data.fields #[Value.str (Str.ofString "code") 368, Value.str (Str.ofString "HuffTable.code") 369, Value.str (Str.ofString "/claim/cut.py") 370, Value.int 96 0, Value.int 2 0, Value.int 0 0, Value.int 0 0, Value.int 3 0, Value.ref 126, Value.bool true, Value.int 181 0, Value.ref 127, Value.none, Value.ref 128, Value.ref 129, Value.ref 130, Value.int 374 0, Value.int 96 0, Value.str (Str.ofString "/claim/cut.py") 375] }) ::
    (nat_lit 132, o132) ::
    (nat_lit 133, { cls := Value.type "tuple", data := Data.seq #[] }) ::
    (nat_lit 135, { cls := Value.type "tuple", data := Data.seq #[Value.str (Str.ofString "self") 380, Value.str (Str.ofString "reader") 381, Value.str (Str.ofString "code") 382, Value.str (Str.ofString "first") 383, Value.str (Str.ofString "many") 384, Value.str (Str.ofString "place") 385] }) ::
    (nat_lit 136, { cls := Value.type "tuple", data := Data.seq #[] }) ::
    (nat_lit 138, { cls := Value.type "code", data := Data.fields #[Value.str (Str.ofString "read") 377, Value.str (Str.ofString "HuffTable.read") 378, Value.str (Str.ofString "/claim/cut.py") 379, Value.int 102 0, Value.int 2 0, Value.int 0 0, Value.int 0 0, Value.int 3 0, Value.ref 133, Value.bool true, Value.int 181 0, Value.ref 134, Value.none, Value.ref 135, Value.ref 136, Value.ref 137, Value.int 386 0, Value.int 102 0, Value.str (Str.ofString "/claim/cut.py") 387] }) ::
    (nat_lit 139, o139) ::
    (nat_lit 140, { cls := Value.type "tuple", data := Data.seq #[Value.str (Str.ofString "codes") 389, Value.str (Str.ofString "counts") 390, Value.str (Str.ofString "rows") 391, Value.str (Str.ofString "symbols") 392] }) ::
    (nat_lit 141, { cls := Value.type "dict", data := Data.dict #[{ hash := PyData.keyHash P (Str.ofString "__module__"), key := Value.str (Str.ofString "__module__") 349, val := Value.str (Str.ofString "pixelpress.huffman") 314 }, { hash := PyData.keyHash P (Str.ofString "__firstlineno__"), key := Value.str (Str.ofString "__firstlineno__") 353, val := Value.int 83 352 }, { hash := PyData.keyHash P (Str.ofString "__init__"), key := Value.str (Str.ofString "__init__") 367, val := Value.ref 125 }, { hash := PyData.keyHash P (Str.ofString "code"), key := Value.str (Str.ofString "code") 376, val := Value.ref 132 }, { hash := PyData.keyHash P (Str.ofString "read"), key := Value.str (Str.ofString "read") 388, val := Value.ref 139 }, { hash := PyData.keyHash P (Str.ofString "__static_attributes__"), key := Value.str (Str.ofString "__static_attributes__") 393, val := Value.ref 140 }, { hash := PyData.keyHash P (Str.ofString "__dict__"), key := Value.str (Str.ofString "__dict__") 395, val := Value.ref 143 }, { hash := PyData.keyHash P (Str.ofString "__weakref__"), key := Value.str (Str.ofString "__weakref__") 397, val := Value.ref 144 }, { hash := PyData.keyHash P (Str.ofString "__doc__"), key := Value.str (Str.ofString "__doc__") 398, val := Value.none }] 4 }) ::
    (nat_lit 142, { cls := Value.type "type", data := Data.cls { name := Str.ofString "HuffTable", bases := [Value.type "object"], mro := [Value.ref 142, Value.type "object"], ns := 141, qualname := Str.ofString "HuffTable" }, slots := #[none, none, some (Value.str (Str.ofString "HuffTable") 342), some (Value.str (Str.ofString "HuffTable") 350), some (Value.builtin "object.__new__"), some (Value.bool true)] }) ::
    (nat_lit 143, { cls := Value.type "getset_descriptor", data := Data.fields #[Value.str (Str.ofString "__dict__") 394, Value.ref 142, Value.builtin "function.__dict__", Value.builtin "function.__dict__#set"] }) ::
    (nat_lit 144, { cls := Value.type "getset_descriptor", data := Data.fields #[Value.str (Str.ofString "__weakref__") 396, Value.ref 142, Value.builtin "ExceptionGroup.__weakref__", Value.none] }) ::
    (nat_lit 147, { cls := Value.type "tuple", data := Data.seq #[] }) ::
    (nat_lit 149, { cls := Value.type "tuple", data := Data.seq #[Value.str (Str.ofString "script") 406, Value.str (Str.ofString "cell") 407, Value.str (Str.ofString "big") 408, Value.str (Str.ofString "mixed") 409] }) ::
    (nat_lit 150, { cls := Value.type "tuple", data := Data.seq #[] }) ::
    (nat_lit 152, { cls := Value.type "code", data := Data.fields #[Value.str (Str.ofString "_law_pool") 403, Value.str (Str.ofString "_law_pool") 404, Value.str (Str.ofString "/claim/cut.py") 405, Value.int 110 0, Value.int 1 0, Value.int 0 0, Value.int 0 0, Value.int 3 0, Value.ref 147, Value.bool true, Value.int 181 0, Value.ref 148, Value.none, Value.ref 149, Value.ref 150, Value.ref 151, Value.int 410 0, Value.int 110 0, Value.str (Str.ofString "/claim/cut.py") 411] }) ::
    (nat_lit 153, o153) ::
    (nat_lit 154, { cls := Value.type "tuple", data := Data.seq #[] }) ::
    (nat_lit 156, { cls := Value.type "tuple", data := Data.seq #[Value.str (Str.ofString "source") 416, Value.str (Str.ofString "top") 417, Value.str (Str.ofString "drawn") 418] }) ::
    (nat_lit 157, { cls := Value.type "tuple", data := Data.seq #[] }) ::
    (nat_lit 159, { cls := Value.type "code", data := Data.fields #[Value.str (Str.ofString "_law_take") 413, Value.str (Str.ofString "_law_take") 414, Value.str (Str.ofString "/claim/cut.py") 415, Value.int 117 0, Value.int 2 0, Value.int 0 0, Value.int 0 0, Value.int 3 0, Value.ref 154, Value.bool true, Value.int 181 0, Value.ref 155, Value.none, Value.ref 156, Value.ref 157, Value.ref 158, Value.int 419 0, Value.int 117 0, Value.str (Str.ofString "/claim/cut.py") 420] }) ::
    (nat_lit 160, o160) ::
    (nat_lit 161, { cls := Value.type "tuple", data := Data.seq #[] }) ::
    (nat_lit 164, { cls := Value.type "code", data := Data.fields #[Value.str (Str.ofString "_law_cheapest") 422, Value.str (Str.ofString "_law_cheapest") 423, Value.str (Str.ofString "/claim/cut.py") 424, Value.int 124 0, Value.int 2 0, Value.int 0 0, Value.int 0 0, Value.int 3 0, Value.ref 161, Value.bool true, Value.int 181 0, Value.ref 162, Value.none, Value.none, Value.none, Value.ref 163, Value.int 425 0, Value.int 124 0, Value.str (Str.ofString "/claim/cut.py") 426] }) ::
    (nat_lit 165, o165) ::
    (nat_lit 166, { cls := Value.type "tuple", data := Data.seq #[] }) ::
    (nat_lit 168, { cls := Value.type "tuple", data := Data.seq #[Value.str (Str.ofString "source") 431, Value.str (Str.ofString "frequencies") 432, Value.str (Str.ofString "symbol") 433] }) ::
    (nat_lit 169, { cls := Value.type "tuple", data := Data.seq #[] }) ::
    (nat_lit 171, { cls := Value.type "code", data := Data.fields #[Value.str (Str.ofString "_law_edges_right") 428, Value.str (Str.ofString "_law_edges_right") 429, Value.str (Str.ofString "/claim/cut.py") 430, Value.int 132 0, Value.int 1 0, Value.int 0 0, Value.int 0 0, Value.int 3 0, Value.ref 166, Value.bool true, Value.int 181 0, Value.ref 167, Value.none, Value.ref 168, Value.ref 169, Value.ref 170, Value.int 434 0, Value.int 132 0, Value.str (Str.ofString "/claim/cut.py") 435] }) ::
    (nat_lit 172, o172) ::
    (nat_lit 173, { cls := Value.type "tuple", data := Data.seq #[] }) ::
    (nat_lit 176, { cls := Value.type "code", data := Data.fields #[Value.str (Str.ofString "law") 437, Value.str (Str.ofString "law") 438, Value.str (Str.ofString "/claim/cut.py") 439, Value.int 146 0, Value.int 1 0, Value.int 0 0, Value.int 0 0, Value.int 3 0, Value.ref 173, Value.bool true, Value.int 181 0, Value.ref 174, Value.none, Value.none, Value.none, Value.ref 175, Value.int 440 0, Value.int 146 0, Value.str (Str.ofString "/claim/cut.py") 441] }) ::
    (nat_lit 177, o177) :: []
noncomputable abbrev heapAt : List Addr := [2, 3, 15, 22, 24, 25, 27, 28, 29, 30, 31, 32, 35, 42, 43, 44, 47, 54, 55, 56, 59, 61, 62, 64, 65, 66, 68, 69, 71, 72, 73, 76, 77, 78, 80, 81, 83, 84, 85, 88, 89, 90, 91, 93, 94, 96, 97, 98, 100, 101, 103, 104, 105, 107, 108, 110, 111, 119, 121, 122, 124, 125, 126, 128, 129, 131, 132, 133, 135, 136, 138, 139, 140, 141, 142, 143, 144, 147, 149, 150, 152, 153, 154, 156, 157, 159, 160, 161, 164, 165, 166, 168, 169, 171, 172, 173, 176, 177]
theorem heapAt_ok : ∀ P, heapAt = (heap P).map (·.1) := fun _ => by kernel_rfl
/-- the top's run, its heap a tree, its step and its look open -/
noncomputable def runG (ok : Thread → Bool) (stp : SharedT → Thread → Option (SharedT × Thread)) : Nat → SharedT → Thread → Option SharedT
  | 0, _, _ => none
  | n + 1, s, t => match through t with
    | true => some s
    | false => match ok t with
      | false => none
      | true => match stp s t with
        | some (s', t') => runG ok stp n s' t'
        | none => none
theorem runG_of {tb : String → Option Builtin} {p : Program} {w : World} {n₀ : Nat} {ann : Option Value} : ∀ {n : Nat} {s s' : SharedT} {t : Thread}, runG (stepOk n₀ ann) (stepT (PySem.denote tb) p w) n s t = some s' → topRun tb p w n₀ ann n s.abs t = some s'.abs
  | 0, _, _, _, h => by cases h
  | n + 1, s, s', t, h => by
    unfold runG at h
    unfold topRun
    cases he : through t with
    | true => rw [he] at h; cases h; rfl
    | false =>
      rw [he] at h
      cases hk : stepOk n₀ ann t with
      | false => rw [hk] at h; cases h
      | true =>
        rw [hk] at h
        cases hs : stepT (PySem.denote tb) p w s t with
        | none => rw [hs] at h; cases h
        | some r => obtain ⟨s₂, t₂⟩ := r; rw [hs] at h; rw [stepT_spec hs]; exact runG_of h
theorem left_of_tree {p q : Program} {loose : List Str} {Xt : Shared → Bool} {α : Type} {Yf : Shared → α} {Ya : World → α} {N : Nat} {g0 : Bool} {T₀ : Params → BT} {H₀ : Params → Heap} {gs₀ : Array GenState} {d₀ : Drawn} {k₀ n₀ : Nat} {l₀ : Life}
    (open_ : ∀ w : World, (fencedOpening treeTable p w N).map (fun s => (s.heap, s.gens, s.drawn, s.toks)) = some (H₀ w.params, gs₀, d₀, k₀))
    (tree : ∀ w : World, absHeap (T₀ w.params) n₀ l₀ = H₀ w.params)
    (size : ∀ w : World, ((H₀ w.params).isNs mainGlobals && gs₀.size == 0, (H₀ w.params).objs.size) = (true, n₀))
    (run : ∀ (w : World) (os : OsState), (runG (stepOk n₀ ((H₀ w.params).nsMap mainGlobals "__annotations__")) (stepT (PySem.denote treeTable) p w) N ⟨T₀ w.params, n₀, l₀, gs₀, d₀, k₀, os⟩ (topStub p)).map (fun s => ((staticsOk (importedModules p.main.body) (H₀ w.params) s.abs.heap && namesBound p s.abs.heap && gensDone s.abs && laidKept (H₀ w.params) s.abs.heap),
        openSeen q loose (importedModules p.main.body) Xt g0 s.abs, Yf s.abs)) = some (true, openGood q loose, Ya w)) : LeftO p q loose Xt Yf Ya N g0 := fun w => by
  obtain ⟨⟨h, gs, d, k, os⟩, e, e'⟩ := Option.map_eq_some_iff.mp (open_ w)
  obtain ⟨rfl, rfl, rfl, rfl⟩ : h = H₀ w.params ∧ gs = gs₀ ∧ d = d₀ ∧ k = k₀ := by simpa using e'
  obtain ⟨z1, z2⟩ : _ ∧ _ := by simpa only [Prod.mk.injEq] using size w
  obtain ⟨sT, r1, r2⟩ := Option.map_eq_some_iff.mp (run w os)
  obtain ⟨l1, l2, l3⟩ : _ ∧ _ ∧ _ := by simpa only [Prod.mk.injEq] using r2
  have r := runG_of r1
  rw [show SharedT.abs ⟨T₀ w.params, n₀, l₀, gs, d, k, os⟩ = ⟨H₀ w.params, gs, d, k, os⟩ by unfold SharedT.abs; rw [tree w]] at r
  have t : topFrom treeTable p w N ⟨H₀ w.params, gs, d, k, os⟩ = some sT.abs := by
    unfold topFrom
    dsimp only
    rw [z1, z2, r]
    show (match staticsOk (importedModules p.main.body) (H₀ w.params) sT.abs.heap && namesBound p sT.abs.heap && gensDone sT.abs && laidKept (H₀ w.params) sT.abs.heap with | true => _ | false => _) = _
    rw [l1]
  unfold openEnds
  rw [e]
  show (topFrom treeTable p w N _).map _ = _
  rw [t]
  exact congrArg some (Prod.ext l2 l3)
noncomputable def bootT (P : Params) : BT := (boot_heap P).objs.toList.zipIdx.foldl (fun t x => t.ins x.2 x.1) .nil
theorem bootT_ok (w : World) : absHeap (bootT w.params) 11 {} = boot_heap w.params := by kernel_rfl
theorem boot_size (w : World) : ((boot_heap w.params).isNs mainGlobals && (Array.mk [] : Array GenState).size == 0, (boot_heap w.params).objs.size) = (true, 11) := by kernel_rfl
theorem open1 : ∀ w : World, (fencedOpening treeTable PySem.Challenge.pw_nt0548_01 w 2988).map (fun s => (s.heap, s.gens, s.drawn, s.toks)) = some (boot_heap w.params, Array.mk [], boot_drawn, boot_toks) :=
  boot_open (by kernel_rfl) (by decide) (fun s => by kernel_rfl)
theorem run1 (w : World) (os : OsState) : (runG (stepOk 11 ((boot_heap w.params).nsMap mainGlobals "__annotations__")) (stepT (PySem.denote treeTable) PySem.Challenge.pw_nt0548_01 w) 2988 ⟨bootT w.params, 11, {}, Array.mk [], boot_drawn, boot_toks, os⟩ (topStub PySem.Challenge.pw_nt0548_01)).map (fun s => ((staticsOk (importedModules PySem.Challenge.pw_nt0548_01.main.body) (boot_heap w.params) s.abs.heap && namesBound PySem.Challenge.pw_nt0548_01 s.abs.heap && gensDone s.abs && laidKept (boot_heap w.params) s.abs.heap),
        openSeen view [Str.ofString "best_table"] (importedModules PySem.Challenge.pw_nt0548_01.main.body) (fun s => xlAt view [] s && recOk (RowW.records PySem.Challenge.rw_nt0548_01.row.toRowW) s) true s.abs, Hook.obs (kHook heap heapAt heapAt_ok) s.abs)) = some (true, openGood view [Str.ofString "best_table"], Hook.val (kHook heap heapAt heapAt_ok) w) := by
  first
    | (rw [PySem.W.Fast.te10156331382660048174, PySem.W.Fast.te11892475500146522536, PySem.W.Fast.te14364793385576792824, PySem.W.Fast.te6613529449190102663, PySem.W.Fast.te4187177175401517315]; kernel_rfl)
    | kernel_rfl
theorem left1 : LeftO PySem.Challenge.pw_nt0548_01 view [Str.ofString "best_table"] (fun s => xlAt view [] s && recOk (RowW.records PySem.Challenge.rw_nt0548_01.row.toRowW) s) (Hook.obs (kHook heap heapAt heapAt_ok)) (Hook.val (kHook heap heapAt heapAt_ok)) 2988 :=
  left_of_tree open1 bootT_ok boot_size run1
theorem said1 : PySem.Challenge.rw_nt0548_01.wellSaid = true := by
  first
    | (rw [PySem.W.Fast.te9446332074065402090]
       delta PySem.W.Fast.tw9446332074065402090
       repeat' with_reducible refine look_both ?_ ?_
       all_goals try (delta PySem.W.Fast.tw17960256430627541270; repeat' with_reducible refine look_both ?_ ?_)
       all_goals try (delta PySem.W.Fast.tw2436336058641802641; repeat' with_reducible refine look_both ?_ ?_)
       all_goals try (delta PySem.W.Fast.tw12908688711261696721; repeat' with_reducible refine look_both ?_ ?_)
       all_goals as_aux_lemma => kernel_rfl)
    | kernel_rfl
theorem ok1 : (chainsOk view && opensWell PySem.Challenge.rw_nt0548_01.row.prog && (frees PySem.Challenge.rw_nt0548_01.row.toRowW && PySem.Challenge.rw_nt0548_01.row.within.isEmpty)) = true := by kernel_rfl
theorem hd (d : DefRec) (e : d = { name := Str.ofString "law", params := argsOf (fdK 24), body := bodyOf (fdK 24), scope := scopeOf (fdK 24), pos := (fdK 24).pos })
    (call : WalkO view [Str.ofString "best_table"] (XL view []) (Hook.says (kHook heap heapAt heapAt_ok)) PySem.Challenge.rw_nt0548_01.row.toRowW d [] fun f vs => PySem.call f vs) : PySem.Challenge.rw_nt0548_01.Holds := by
  subst e
  exact holds_law said1 fun said => holds_open left1 (Hook.of (kHook heap heapAt heapAt_ok)) (Hook.keeps (kHook heap heapAt heapAt_ok)) (fun s e => xl_of s (Bool.and_eq_true_iff.mp e).1) XL.keeps (by kernel_rfl) (by kernel_rfl) (by kernel_rfl)
    (fun s e => recFacts_of (Bool.and_eq_true_iff.mp e).2) (by rfl) said ok1 ⟨rfl, rfl, rfl, rfl, rfl, by decide +kernel⟩ (by w_witness2) call
end
open PySem PySem.W PyProof.Rows PySem.Calls PyProof.V PySem.Spec
theorem room2 {n a b c C : Nat} (h : n + a < C) (k : Nat.ble (b + c) a = true) : n + b + c < C := Nat.lt_of_le_of_lt (Nat.add_assoc n b c ▸ Nat.add_le_add_left (Nat.le_of_ble_eq_true k) n) h
theorem room1 {n a C : Nat} (h : n + a < C) : n < C := Nat.lt_of_le_of_lt (Nat.le_add_right n a) h
local macro_rules | `(tactic| omega) => `(tactic| first | with_reducible assumption | decide | with_reducible exact room1 (by assumption) | with_reducible exact room2 (by assumption) rfl | lia | omega (config := {}))
section
set_option maxRecDepth 100000
noncomputable abbrev Coin := Int × List Int
noncomputable def coinD (c : Coin) : Dat := .tuple [.int c.1, .list (c.2.map .int)]
noncomputable def coinsD (cs : List Coin) : List Dat := cs.map coinD
/-- what a def does to its arguments, told over the ledger: Rel of the arguments, Ok of the datum, Out of what comes back -/
structure Con (D : Type) where
  Rel : List (Addr × Obj) → List Value → D → Prop
  Ok : D → Prop
  size : Nat
  Out : List (Addr × Obj) → Value → D → Prop
noncomputable def TX {D : Type} (w : World) (mean : ExcName → Option Value) (mg mb : Str → Option Value) (f : Addr) (c : Con D) : Prop :=
  ∀ (d : D) (dp un : Nat) (gd : Option (List Code)) (cn : Str) (cs : Scope) (a : Addr) (ccd : Value) (cl : List (Str × Addr)) (outer : List Env) (A₀ : Around) (base h₀ : Heap) (L : Addr) (m : Str → Option Value) (news : List (Addr × Obj)) (s : Shared) (vs : List Value)
    (Q E : Value → Shared → Prop),
    Below A₀ base outer h₀ → Fr h₀ L s.heap m → (heap w.params).In h₀ → News h₀ L s.heap news → Top view (looseW view [Str.ofString "best_table"]) mean mg mb h₀ → cs.kind = .function → c.Rel news vs d → c.Ok d → dp + c.size < recursionLimit → un + 8 * c.size < cLine →
    (∀ r tl h' tk', Fr h₀ L h' m → News h₀ L h' (news ++ tl) → OwnOff tl (news.map (·.1)) → c.Out (news ++ tl) r d → Q r { s with heap := h', toks := tk' }) →
    wpAny (model PySem.Challenge.rw_nt0548_01.row.prog w) (ktrTop dp un gd cn cs L a ccd cl outer) (call (.ref f) vs) Q E s

noncomputable def stepKs (a₀ c : Int) (n : Nat) : List Int := (List.range n).map fun (i : Nat) => a₀ + (i : Int) * c
theorem stepKs_length (a₀ c : Int) (n : Nat) : (stepKs a₀ c n).length = n := by simp [stepKs]

section
variable {prog : Program} {w : World} {A : Around} {E : Value → Shared → Prop} {s : Shared} {env : Env} {h₀ : Heap} {x : Str} {body : List Stmt} {Q : Flow → Shared → Prop}
/-- a for over a range with any step, its state told as the library's KdS -/
theorem for_step {σ : Type} {r : Addr} {a₀ b₀ cc : Int} {t₀ u₀ v₀ : Tok} {n : Nat} {m₀ : Str → Option Value} {news : List (Addr × Obj)} (Led : σ → List (Addr × Obj)) (cst : List (Addr × Obj)) (ps : σ → List (Str × Value)) (Facts : List (Addr × Obj) → σ → Prop) (stored : List Str) (P : List Int → σ → Prop) (adr : List Addr) (c₀ : σ)
    (hh : A.handled = none) (hr : IsRange s.heap r a₀ b₀ cc t₀ u₀ v₀) (hsmall : Builtin.Range.small a₀ b₀ cc = true) (hsz : Builtin.Range.rangeSize a₀ b₀ cc = (n : Int)) (F : Fr h₀ env.locals s.heap m₀) (N : News h₀ env.locals s.heap news) (hn : ∀ p ∈ Led c₀ ++ (cst ++ []), p ∈ news) (hadr : ∀ c, (Led c ++ cst).map (·.1) = adr) (hf : Facts (cst ++ []) c₀) (hk : ∀ p ∈ ps c₀, m₀ p.1 = some p.2) (hp : P [] c₀)
    (turn : ∀ (sx : Shared) (Q₁ : Flow → Shared → Prop) (c : σ) tl (pre : List Int) (k : Int) t (u : Str → Option Value) h tk own, k = a₀ + (pre.length : Int) * cc → pre.length < n → KdSep own tl adr → OwnOff (tl ++ own) adr → Facts (cst ++ tl) c → P pre c →
      Fr h₀ env.locals h (fun y => if y = x then some (.int k t) else kstB (fun z => if stored.contains z then u z else m₀ z) (ps c) y) → News h₀ env.locals h (Led c ++ (cst ++ (tl ++ own))) →
      wpAny (model prog w) A (execs body env) (InvPostG h₀ env.locals (KdS Led cst ps Facts x stored m₀ P adr (pre ++ [k])) own { sx with heap := h, toks := tk } Q₁) E { sx with heap := h, toks := tk })
    (done : ∀ (c : σ) tl (u : Str → Option Value) h tk, OwnOff tl adr → Facts (cst ++ tl) c → P (stepKs a₀ cc n) c → Fr h₀ env.locals h (fun y => if y = x then u y else kstB (fun z => if stored.contains z then u z else m₀ z) (ps c) y) → News h₀ env.locals h (Led c ++ (cst ++ tl)) → Q .next { s with heap := h, toks := tk }) :
    wpAny (model prog w) A (pyIter (.ref r)) (fun it s₂ => LoopAtV prog w A h₀ env x body Q E it s₂) E s := by
  refine wpAny_pyIter_range hr hsmall ?_
  have W : Walks prog w A s.heap.objs.size [s.heap.objs.size] [s.heap.objs.size] n (fun i v => i < n ∧ ∃ t, v = .int (a₀ + i * cc) t)
      (fun i h => IsRangeIter h s.heap.objs.size (a₀ + (i : Nat) * cc) ((n : Int) - (i : Nat)) cc) := (Walks.range hh _ a₀ cc n).bound
  refine kdr_loop (fun i m nx => KdS Led cst ps Facts x stored m₀ P adr ((stepKs a₀ cc n).take i) m nx) W (fun _ h => h) (fun _ h => h) ?_ ?_ ?_ ?_ (by show IsRangeIter _ _ _ _ _; rw [hsz]; simpa using Heap.get?_push_size _ rfl) (F.push _) (fun p hp => ⟨Heap.get?_push_of_some _ (N p (hn p hp)).1, (N p (hn p hp)).2⟩) ⟨c₀, [], rfl, fun _ hp => (nomatch hp), hf, hk, fun _ _ _ _ => rfl, by simpa using hp⟩ ?_ ?_
  · intro i h hi b hb
    rw [List.mem_singleton.mp hb]
    exact ⟨_, hi⟩
  · intro hm
    exact absurd F.ns.lt ((List.mem_singleton.mp hm) ▸ Nat.lt_irrefl _)
  · intro b hb
    rw [List.mem_singleton.mp hb]
    exact next_is_new F
  · intro p hp hI
    exact absurd (Heap.lt_size (N p (hn p hp)).1) ((List.mem_singleton.mp hI) ▸ Nat.lt_irrefl _)
  · rintro i v m₁ nx h tk own hi ⟨_, t, rfl⟩ hoff ⟨c, tl, rfl, ht, hf', h1, h2, hp'⟩ F₁ N₁
    have hk' : (stepKs a₀ cc n)[i]? = some (a₀ + (i : Int) * cc) := by simp [stepKs, hi]
    have hs : (stepKs a₀ cc n).take (i + 1) = (stepKs a₀ cc n).take i ++ [a₀ + (i : Int) * cc] := by simp [List.take_add_one, hk']
    have hlen : ((stepKs a₀ cc n).take i).length = i := by rw [List.length_take, stepKs_length]; omega
    rw [hs]
    obtain ⟨o1, o2⟩ := kd_split (hadr c) hoff
    rw [List.append_assoc, List.append_assoc] at N₁
    exact turn _ _ c tl _ _ t m₁ h tk own (by rw [hlen]) (by rw [hlen]; exact hi) ⟨o1, o2, ht⟩ (kd_off o1 ht) hf' hp' (kst_fr h1 h2 F₁) N₁
  · rintro m₁ nx h tk ⟨c, tl, rfl, ht, hf', h1, h2, hp'⟩ F₁ N₁
    have hl : (stepKs a₀ cc n).take n = stepKs a₀ cc n := List.take_of_length_le (Nat.le_of_eq (stepKs_length _ _ _))
    rw [hl] at hp'
    exact done c tl m₁ h tk ht hf' hp' (kst_frOut h1 h2 F₁) N₁
end

theorem coin_in {L9 : List (Addr × Obj)} {v : Value} {c : Coin} (h : DatIn L9 v (coinD c)) : ∃ (a : Addr) (t : Tok) (b : Addr) (vs : List Value) (n n' : Nat),
    v = .ref a ∧ (a, ({ cls := .type "tuple", data := .seq (List.toArray [.int c.1 t, .ref b]) n } : Obj)) ∈ L9 ∧ (b, listOf vs.toArray n') ∈ L9 ∧ DatAll L9 vs (c.2.map .int) := by
  cases h with
  | tuple hm hr =>
    cases hr with
    | cons h1 hr =>
      cases hr with
      | cons h2 hr =>
        cases hr
        cases h1
        cases h2 with
        | list hm2 hr2 => exact ⟨_, _, _, _, _, _, rfl, hm, hm2, hr2⟩
theorem coin_mk {L9 : List (Addr × Obj)} {a b : Addr} {i : Int} {t : Tok} {n n' : Nat} {vs : List Value} {ss : List Int} (h : (a, ({ cls := .type "tuple", data := .seq (List.toArray [.int i t, .ref b]) n } : Obj)) ∈ L9) (h2 : (b, listOf vs.toArray n') ∈ L9) (h3 : DatAll L9 vs (ss.map .int)) : DatIn L9 (.ref a) (coinD (i, ss)) :=
  .tuple (vs := [_, _]) h (.cons (.int _ _) (.cons (.list h2 h3) .nil))
theorem coin_at {L9 : List (Addr × Obj)} {us : List Value} {cs : List Coin} (h : DatAll L9 us (coinsD cs)) {j : Nat} (hj : j < cs.length) : ∃ (a : Addr) (t : Tok) (b : Addr) (vs : List Value) (n n' : Nat),
    us[j]? = some (.ref a) ∧ (a, ({ cls := .type "tuple", data := .seq (List.toArray [.int (cs[j]).1 t, .ref b]) n } : Obj)) ∈ L9 ∧ (b, listOf vs.toArray n') ∈ L9 ∧ DatAll L9 vs ((cs[j]).2.map .int) := by
  obtain ⟨v, hv, hD⟩ := h.get (k := j) (by simpa [coinsD] using hj)
  have e : (coinsD cs)[j]'(by simpa [coinsD] using hj) = coinD cs[j] := by simp [coinsD]
  rw [e] at hD
  obtain ⟨a, t, b, vs, n, n', rfl, r⟩ := coin_in hD
  exact ⟨a, t, b, vs, n, n', hv, r⟩
section
variable {prog : Program} {w : World} {A : Around} {E : Value → Shared → Prop} {s : Shared} {h₀ : Heap} {L l : Addr}
theorem item_at {value slice : PySem.Expr} {news : List (Addr × Obj)} {us : List Value} {n : Nat} {k : Int} {u : Tok} {v : Value} {Q : Value → Shared → Prop} (N : News h₀ L s.heap news) (hx : us[k.toNat]? = some v) (hm : (l, listOf us.toArray n) ∈ news)
    (h0 : 0 ≤ k) (hfit : k < 2 ^ 63) (h : Q v s)
    (hs : subscripted slice false (.ref l) (.int k u) = operate [.ref l, .int k u] (getItem (.ref l) (.int k u)) := by with_unfolding_all rfl) :
    wpAny (model prog w) A (subscriptTail value slice (.ref l) (.int k u)) Q E s := by
  have hl : s.heap.IsList l us.toArray := ⟨_, (N _ hm).1, rfl, n, rfl⟩
  exact tail_any hl.typeIs slot_list_getitem.lookup (wpAny_getItem_list hl h0 hfit (by simpa using hx) h) hs
end
section
variable {prog : Program} {w : World} {A : Around} {E : Value → Shared → Prop} {s : Shared} {h₀ : Heap} {L a b : Addr} {m : Str → Option Value} {news : List (Addr × Obj)} {Q : Value → Shared → Prop}
theorem add_known {vs ws : List Value} {n n' : Nat} (F : Fr h₀ L s.heap m) (N : News h₀ L s.heap news) (ha : (a, listOf vs.toArray n) ∈ news) (hb : (b, listOf ws.toArray n') ∈ news) (hz : vs.length + ws.length ≤ sizeLine)
    (h : ∀ D h', Fr h₀ L h' m → News h₀ L h' ((D, listOf (vs ++ ws).toArray 0) :: news) → (∀ p ∈ news, p.1 < D) → Q (.ref D) { s with heap := h' }) :
    wpAny (model prog w) A (binaryOp .Add (.ref a) (.ref b)) Q E s :=
  kmk_add_lit F N ⟨_, (N _ ha).1, rfl, n, rfl⟩ ⟨_, (N _ hb).1, rfl, n', rfl⟩ (by simp) h (by simpa using hz)
end
section
variable {prog : Program} {w : World} {A : Around} {E : Value → Shared → Prop} {s : Shared} {h₀ : Heap} {L l : Addr}
theorem len_at {news : List (Addr × Obj)} {us : List Value} {n k : Nat} {Q : Value → Shared → Prop} (N : News h₀ L s.heap news) (hm : (l, listOf us.toArray n) ∈ news) (hk : us.length = k) (hfit : k < 1000000)
    (h : Q (.int (k : Int) (s.toks + 1)) { s with toks := s.toks + 1 + 1 }) : wpAny (model prog w) A (call (.builtin "len") [.ref l]) Q E s := by
  have hl : s.heap.IsList l us.toArray := ⟨_, (N _ hm).1, rfl, n, rfl⟩
  have e : us.toArray.size = k := by rw [List.size_toArray, hk]
  exact len_list hl (by rw [e]; omega) (by rw [e]; exact h)
end
/-- a mark: the walk stops at this key (or takes the step so named) -/
structure KS (key : String) : Prop where
noncomputable def Stop (P : Prop) : Prop := P
theorem stop_in {P : Prop} (h : Stop P) : P := h
/-- what is wanted behind a step, under a letter -/
theorem q_in {α : Type} {M : Model} {A : Around} {t : Sem α} {Q : α → Shared → Prop} {E : Value → Shared → Prop} {s : Shared} (k : ∀ Q' : α → Shared → Prop, (∀ v s', Q v s' → Q' v s') → wpAny M A t Q' E s) : wpAny M A t Q E s := k Q fun _ _ h => h
theorem tok_in {α : Type} {M : Model} {A : Around} {t : Sem α} {Q : α → Shared → Prop} {E : Value → Shared → Prop} {h : Heap} {g : Array GenState} {d : Drawn} {k : Nat} {o : OsState} (x : ∀ k' : Nat, wpAny M A t Q E ⟨h, g, d, k', o⟩) : wpAny M A t Q E ⟨h, g, d, k, o⟩ := x k
/-- the goal under a letter: what is opened below does not copy it -/
theorem hold_in {P : Prop} (k : ∀ G : Prop, (P → G) → G) : P := k P id
theorem ex1 {α : Sort _} {p : α → Prop} {G : Prop} (h : ∃ x, p x) (k : ∀ x, p x → G) : G := h.elim k
theorem allc {α : Type} {P : α → Prop} {a : α} {l : List α} (h : P a) (t : ∀ x ∈ l, P x) : ∀ x ∈ a :: l, P x := List.forall_mem_cons.mpr ⟨h, t⟩
theorem alln {α : Type} {P : α → Prop} : ∀ x ∈ ([] : List α), P x := fun _ h => nomatch h
theorem alla {α : Type} {P : α → Prop} {l l' : List α} (h : ∀ x ∈ l, P x) (t : ∀ x ∈ l', P x) : ∀ x ∈ l ++ l', P x := fun x hx => (List.mem_append.mp hx).elim (h x) (t x)
theorem nsub {h₀ h : Heap} {L : Addr} {A B : List (Addr × Obj)} (N : News h₀ L h A) (s : ∀ p ∈ B, p ∈ A) : News h₀ L h B := fun p hp => N p (s p hp)
/-- an address of a list of addresses that stand in a ledger -/
theorem addr_in {A : List (Addr × Obj)} {b : Addr} (h : b ∈ A.map (·.1)) : ∃ o, (b, o) ∈ A := by
  obtain ⟨q, hq, rfl⟩ := List.mem_map.mp h
  exact ⟨q.2, hq⟩
theorem off_of_lt {D : Addr} {A : List (Addr × Obj)} (h : AllLt D A) : ∀ b ∈ A.map (·.1), D ≠ b := fun b hb => by
  obtain ⟨o, ho⟩ := addr_in hb
  exact Nat.ne_of_gt (tb_ltOf h _ ho)
theorem ne_add {a L : Nat} (h : a < L) (k : Nat) : a ≠ L + k := Nat.ne_of_lt (Nat.lt_of_lt_of_le h (Nat.le_add_right L k))
theorem small_step {b c : Int} (hc : 0 < c) (hc' : c < 1000) (hb : -1000000 ≤ b) (hb' : b < 1000000) : Builtin.Range.small 0 b c = true := by
  have h1 : Builtin.Range.rangeSize 0 b c = if 0 < b then (b - 1) / c + 1 else 0 := by
    unfold Builtin.Range.rangeSize
    simp [hc]
  unfold Builtin.Range.small
  rw [h1]
  have h2 : 0 < b → 0 ≤ (b - 1) / c ∧ (b - 1) / c ≤ b - 1 := fun h => ⟨Int.ediv_nonneg (by omega) (by omega), Int.ediv_le_self _ (by omega)⟩
  simp only [Builtin.Range.rangeFitsLong, Bool.and_eq_true, Bool.or_eq_true, decide_eq_true_eq, beq_iff_eq, hc, if_true]
  split
  · rename_i h
    have := h2 h
    omega
  · omega
theorem rangeSize_two (n : Nat) : Builtin.Range.rangeSize 0 ((n : Int) - 1) 2 = ((n / 2 : Nat) : Int) := by
  unfold Builtin.Range.rangeSize
  simp only [show (2 : Int) > 0 by decide, if_true]
  split <;> omega
/-- the end of a turn: one list that turned, what was made new -/
theorem end_one {σ : Type} {h₀ : Heap} {L : Addr} {x : Str} {Led : σ → List (Addr × Obj)} {cst : List (Addr × Obj)} {ps : σ → List (Str × Value)} {Facts : List (Addr × Obj) → σ → Prop} {stored : List Str} {m₀ : Str → Option Value} {P : List Int → σ → Prop} {pre : List Int} {l' : Addr} {o : Obj} {tl own : List (Addr × Obj)} {m' : Str → Option Value} {s₁ : Shared} {h' : Heap} {tk : Nat}
    (c : σ) (add : List (Addr × Obj)) (h0 : KdSep own tl (l' :: cst.map (·.1))) (hL : ∀ c, ∃ o, Led c = [(l', o)]) (e : Led c = [(l', o)]) (F : Fr h₀ L h' m') (N : News h₀ L h' (add ++ (l', o) :: (cst ++ (tl ++ own))))
    (hadd : ∀ q ∈ add, l' < q.1 ∧ AllLt q.1 (cst ++ (tl ++ own))) (hk : ∀ p ∈ ps c, m' p.1 = some p.2) (hr : ∀ z, z ≠ x → (∀ p ∈ ps c, z ≠ p.1) → stored.contains z = false → m' z = m₀ z) (hf : Facts (cst ++ (add ++ tl)) c) (hp : P pre c) :
    InvEndG h₀ L (KdS Led cst ps Facts x stored m₀ P (l' :: cst.map (·.1)) pre) own s₁ { s₁ with heap := h', toks := tk } := by
  refine kd_end c add h0 F N ?_ ?_ ?_ ?_ ?_ hk hr hf hp
  · intro p hp
    rw [e] at hp
    simp only [List.cons_append, List.nil_append, List.mem_cons, List.mem_append] at hp ⊢
    rcases hp with hp | hp | hp | hp <;> simp [hp]
  · intro p hp
    simp only [List.mem_cons, List.mem_append]
    simp [hp]
  · rw [e]; rfl
  · intro q hq b hb
    obtain ⟨h1, h2⟩ := hadd q hq
    rcases List.mem_cons.mp hb with rfl | hb
    · exact Nat.ne_of_lt h1
    · obtain ⟨p, hp, rfl⟩ := List.mem_map.mp hb
      exact Nat.ne_of_lt (tb_ltOf h2 p (List.mem_append.mpr (.inl hp)))
  · intro q hq p hp
    obtain ⟨_, h2⟩ := hadd q hq
    exact Nat.ne_of_lt (tb_ltOf h2 p (List.mem_append.mpr (.inr (List.mem_append.mpr (.inr hp)))))

noncomputable def packC : List Coin → List Coin
  | a :: b :: r => (a.1 + b.1, a.2 ++ b.2) :: packC r
  | _ => []
theorem packC_step : ∀ (d : List Coin) (j : Nat) (h : 2 * j + 1 < d.length), packC (d.take (2 * j)) ++ [((d[2 * j]).1 + (d[2 * j + 1]).1, (d[2 * j]).2 ++ (d[2 * j + 1]).2)] = packC (d.take (2 * (j + 1)))
  | [], j, h => by simp at h
  | [a], j, h => by simp at h
  | a :: b :: r, 0, h => by simp [packC]
  | a :: b :: r, j + 1, h => by
    have ih := packC_step r j (by simp at h; omega)
    have e1 : 2 * (j + 1) = 2 * j + 2 := by omega
    have e2 : 2 * (j + 1 + 1) = 2 * (j + 1) + 2 := by omega
    simp only [e1, e2, List.take_succ_cons, packC, List.cons_append, List.getElem_cons_succ]
    rw [ih]
    simp only [e1, packC, List.take_succ_cons]
theorem packC_all : ∀ d : List Coin, packC (d.take (2 * (d.length / 2))) = packC d
  | [] => by simp
  | [a] => by simp [packC]
  | a :: b :: r => by
    have e : (a :: b :: r).length / 2 = r.length / 2 + 1 := by simp only [List.length_cons]; omega
    have e1 : 2 * (r.length / 2 + 1) = 2 * (r.length / 2) + 2 := by omega
    rw [e, e1]
    simp only [List.take_succ_cons, packC]
    rw [packC_all r]
theorem packC_length : ∀ d : List Coin, (packC d).length = d.length / 2
  | [] => rfl
  | [a] => by simp [packC]
  | a :: b :: r => by simp only [packC, List.length_cons, packC_length r]; omega
theorem own_list {l' : Addr} {o : Obj} {tl news : List (Addr × Obj)} (h : OwnOff tl (l' :: news.map (·.1))) (l1 : ∀ p ∈ news, p.1 < l') : OwnOff ((l', o) :: tl) (news.map (·.1)) := by
  intro p hp b hb
  rcases List.mem_cons.mp hp with rfl | hp
  · obtain ⟨q, hq, rfl⟩ := List.mem_map.mp hb
    exact Nat.ne_of_gt (l1 q hq)
  · exact h p hp b (List.mem_cons_of_mem _ hb)
noncomputable def mergeC : List Coin → List Coin → List Coin
  | [], ps => ps
  | c :: cs, [] => c :: cs
  | c :: cs, p :: ps => if c.1 ≤ p.1 then c :: mergeC cs (p :: ps) else p :: mergeC (c :: cs) ps
termination_by a b => a.length + b.length
theorem mergeC_coin {xs ys : List Coin} {i j : Nat} (hi : i < xs.length) (hj : j < ys.length → (xs[i]).1 ≤ (ys[j]!).1) : mergeC (xs.drop i) (ys.drop j) = xs[i] :: mergeC (xs.drop (i + 1)) (ys.drop j) := by
  rw [List.drop_eq_getElem_cons hi]
  by_cases h : j < ys.length
  · rw [List.drop_eq_getElem_cons h, mergeC, if_pos (by have := hj h; rwa [getElem!_pos ys j h] at this)]
  · have e : ys.drop j = [] := List.drop_eq_nil_of_le (by omega)
    rw [e, mergeC]
    congr 1
    cases xs.drop (i + 1) <;> simp [mergeC]
theorem mergeC_pack {xs ys : List Coin} {i j : Nat} (hj : j < ys.length) (hi : i < xs.length → ¬ (xs[i]!).1 ≤ (ys[j]).1) : mergeC (xs.drop i) (ys.drop j) = ys[j] :: mergeC (xs.drop i) (ys.drop (j + 1)) := by
  rw [List.drop_eq_getElem_cons hj]
  by_cases h : i < xs.length
  · rw [List.drop_eq_getElem_cons h, mergeC, if_neg (by have := hi h; rwa [getElem!_pos xs i h] at this)]
  · have e : xs.drop i = [] := List.drop_eq_nil_of_le (by omega)
    rw [e, mergeC]
    simp [mergeC]
theorem mergeC_length : ∀ xs ys : List Coin, (mergeC xs ys).length = xs.length + ys.length
  | [], ys => by simp [mergeC]
  | c :: cs, [] => by simp [mergeC]
  | c :: cs, p :: ps => by
    rw [mergeC]
    split
    · simp only [List.length_cons, mergeC_length cs (p :: ps)]; omega
    · simp only [List.length_cons, mergeC_length (c :: cs) ps]; omega
termination_by a b => a.length + b.length
theorem coinsD_snoc (cs : List Coin) (c : Coin) : coinsD cs ++ [coinD c] = coinsD (cs ++ [c]) := by simp [coinsD]
theorem coinsD_length (cs : List Coin) : (coinsD cs).length = cs.length := by simp [coinsD]
end
section
open PyProof.Rows.LCg PyProof.Rows.LCt PyProof.Rows.LCp
set_option maxRecDepth 100000
noncomputable def IntPairs (kvs : List (Int × Value)) (es : List (Int × Int)) : Prop := kvs.map (·.1) = es.map (·.1) ∧ IntsAre (kvs.map (·.2)) (es.map (·.2))
/-- v is a dict of ints to ints on the ledger -/
noncomputable def DictI (w : World) (news : List (Addr × Obj)) (v : Value) (es : List (Int × Int)) : Prop :=
  ∃ a o kvs, v = .ref a ∧ (a, o) ∈ news ∧ (a == sysModules) = false ∧ o.IsDictOf (intKind PySem.Challenge.rw_nt0548_01.row.prog w) kvs ∧ IntPairs kvs es
theorem IntPairs.length {kvs : List (Int × Value)} {es : List (Int × Int)} (h : IntPairs kvs es) : kvs.length = es.length := by
  have := congrArg List.length h.1
  simpa using this
theorem IntPairs.get {kvs : List (Int × Value)} {es : List (Int × Int)} (h : IntPairs kvs es) {i : Nat} (hi : i < es.length) : ∃ t, kvs[i]? = some ((es[i]).1, .int (es[i]).2 t) := by
  have hl := h.length
  have h1 : (kvs.map (·.1))[i]? = (es.map (·.1))[i]? := by rw [h.1]
  obtain ⟨t, h2⟩ := h.2.get i (es[i]).2 (by simp [hi])
  have hk : i < kvs.length := by omega
  refine ⟨t, ?_⟩
  simp [hi, hk] at h1 h2 ⊢
  exact Prod.ext h1 h2
theorem IntPairs.nodup {w : World} {kvs : List (Int × Value)} {es : List (Int × Int)} {o : Obj} (h : IntPairs kvs es) (hd : o.IsDictOf (intKind PySem.Challenge.rw_nt0548_01.row.prog w) kvs) : (es.map (·.1)).Nodup := by
  obtain ⟨_, _, _, _, _, _, hn⟩ := hd
  rw [← h.1]; exact hn
theorem IntPairs.val {w : World} {kvs : List (Int × Value)} {es : List (Int × Int)} {o : Obj} (h : IntPairs kvs es) (hd : o.IsDictOf (intKind PySem.Challenge.rw_nt0548_01.row.prog w) kvs) {i : Nat} (hi : i < es.length) : ∃ t, valueAt kvs (es[i]).1 = some (.int (es[i]).2 t) := by
  obtain ⟨t, ht⟩ := h.get hi
  obtain ⟨_, _, _, _, _, _, hn⟩ := hd
  exact ⟨t, valueAt_of_get hn ht⟩

section
variable {prog : Program} {w : World} {A : Around} {E : Value → Shared → Prop} {s : Shared} {h₀ : Heap} {L d : Addr} {m : Str → Option Value} {env : Env} {news : List (Addr × Obj)} {o : Obj} {kvs : List (Int × Value)}
/-- an item of a dict of the ledger -/
theorem dict_at {value slice : PySem.Expr} {k : Int} {t : Tok} {v : Value} {Q : Value → Shared → Prop} (N : News h₀ L s.heap news) (hm : (d, o) ∈ news) (hd : o.IsDictOf (intKind prog w) kvs) (hv : valueAt kvs k = some v)
    (h : Q v { s with toks := s.toks + 1 })
    (hs : subscripted slice false (.ref d) (.int k t) = operate [.ref d, .int k t] (getItem (.ref d) (.int k t)) := by with_unfolding_all rfl) :
    wpAny (model prog w) A (subscriptTail value slice (.ref d) (.int k t)) Q E s := by
  have hdo : s.heap.DictOf (intKind prog w) d kvs := Heap.dictOf_iff.mpr ⟨o, (N _ hm).1, hd⟩
  exact tail_any hdo.typeIs slot_dict_getitem.lookup (wpAny_getItem_of (intKind_is prog w k t) hdo.mapOf hv h) hs

theorem CompEnd.weak {m : Str → Option Value} {s₁ : Shared} {I C D : Addr} {oI oC oD : Obj} {S : List (Addr × Obj) → Prop} {r r' : Value → List (Addr × Obj) → Prop} {y : Value} {s₂ : Shared}
    (h : CompEnd h₀ L m s₁ I oI C oC D oD S r y s₂) (k : ∀ y nw, r y nw → r' y nw) : CompEnd h₀ L m s₁ I oI C oC D oD S r' y s₂ := by
  obtain ⟨h', tk, nw, a, b, c, d, e, f⟩ := h
  exact ⟨h', tk, nw, a, b, c, d, e, k _ _ f⟩
theorem off1_mem {D : Addr} : ∀ {nw : List (Addr × Obj)}, Off1 D nw → ∀ p ∈ nw, p.1 ≠ D
  | [], _, _, h => nomatch h
  | _ :: _, x, p, h => by
    rcases List.mem_cons.mp h with rfl | h
    · exact x.1
    · exact off1_mem x.2 p h
theorem off3_add {I C D : Addr} {nw : List (Addr × Obj)} (h : Off3 I C D nw) : ∀ add : List (Addr × Obj), (∀ q ∈ add, I < q.1 ∧ C < q.1 ∧ D < q.1 ∧ AllLt q.1 nw) → Off3 I C D (add ++ nw)
  | [], _ => h
  | q :: r, hq => ⟨⟨Nat.ne_of_gt (hq q List.mem_cons_self).1, Nat.ne_of_gt (hq q List.mem_cons_self).2.1, Nat.ne_of_gt (hq q List.mem_cons_self).2.2.1⟩, off3_add h r fun p hp => hq p (List.mem_cons_of_mem _ hp)⟩
/-- a turn of a comprehension ends: what it made lies ahead -/
theorem compEnd_add {m : Str → Option Value} {s₁ : Shared} {I C D : Addr} {oI oC oD : Obj} {S : List (Addr × Obj) → Prop} {rest : Value → List (Addr × Obj) → Prop} {y : Value} {h' : Heap} {tk : Nat} {nw : List (Addr × Obj)} (add : List (Addr × Obj))
    (F : Fr h₀ L h' m) (N : News h₀ L h' (add ++ (I, oI) :: (C, oC) :: (D, oD) :: nw)) (hadd : ∀ q ∈ add, I < q.1 ∧ C < q.1 ∧ D < q.1 ∧ AllLt q.1 nw) (off : Off3 I C D nw) (hS : S (add ++ nw)) (r : rest y (add ++ nw)) :
    CompEnd h₀ L m s₁ I oI C oC D oD S rest y { s₁ with heap := h', toks := tk } := by
  refine CompEnd.intro F N (add ++ nw) ?_ (off3_add off add hadd) hS r
  intro p hp
  simp only [List.mem_cons, List.mem_append] at hp ⊢
  rcases hp with hp | hp | hp | hp | hp <;> simp [hp]
theorem own_add {I C D : Addr} {tl base nw : List (Addr × Obj)} (h : OwnOff tl (base.map (·.1))) (hb : ∀ p ∈ base, p ∈ nw) : ∀ add : List (Addr × Obj), (∀ q ∈ add, I < q.1 ∧ C < q.1 ∧ D < q.1 ∧ AllLt q.1 nw) → OwnOff (add ++ tl) (base.map (·.1)) := by
  intro add hq p hp b hb'
  rcases List.mem_append.mp hp with hp | hp
  · obtain ⟨q, hq', rfl⟩ := List.mem_map.mp hb'
    exact Nat.ne_of_gt (tb_ltOf (hq p hp).2.2.2 q (hb q hq'))
  · exact h p hp b hb'
noncomputable def TurnU (prog : Program) (w : World) (A : Around) (h₀ : Heap) (L : Addr) (m : Str → Option Value) (env : Env) (elt : PySem.Expr) (x : Str) (scope : Scope) (cl : List (Str × Addr)) (s : Shared) (S : List (Addr × Obj) → Prop) (P : Nat → Value → Prop)
    (Inv : Nat → List Value → List (Addr × Obj) → Prop) (i : Nat) (ys : List Value) (news : List (Addr × Obj)) : Prop :=
  ∀ (sx : Shared) v I oI C oC D m₂ h tk (E' : Value → Shared → Prop), P i v → NsObj oC m₂ → m₂ x = some v → Fr h₀ L h m → News h₀ L h ((I, oI) :: (C, oC) :: (D, lst ys) :: news) → Off3 I C D news → ((@Ne Nat I C) ∧ (@Ne Nat I D) ∧ (@Ne Nat C D)) →
      wpAny (model prog w) A (eval elt (compEnvC scope cl C env)) (CompEnd h₀ L m { sx with heap := h, toks := tk } I oI C oC D (lst ys) S (fun y news' => Inv (i + 1) (ys ++ [y]) news')) E' { sx with heap := h, toks := tk }
noncomputable def TurnT (prog : Program) (w : World) (A : Around) (h₀ : Heap) (L : Addr) (m : Str → Option Value) (env : Env) (ct elt : PySem.Expr) (x : Str) (scope : Scope) (cl : List (Str × Addr)) (s : Shared) (S : List (Addr × Obj) → Prop) (P : Nat → Value → Prop)
    (Inv : Nat → List Value → List (Addr × Obj) → Prop) (i : Nat) (ys : List Value) (news : List (Addr × Obj)) : Prop :=
  ∀ (sx : Shared) v I oI C oC D m₂ h tk (E' : Value → Shared → Prop), P i v → NsObj oC m₂ → m₂ x = some v → Fr h₀ L h m → News h₀ L h ((I, oI) :: (C, oC) :: (D, lst ys) :: news) → Off3 I C D news → ((@Ne Nat I C) ∧ (@Ne Nat I D) ∧ (@Ne Nat C D)) →
      wpAny (model prog w) A (isTrue ct (compEnvC scope cl C env) (eval ct (compEnvC scope cl C env))) (fun ok s' => if ok = true then
        wpAny (model prog w) A (eval elt (compEnvC scope cl C env)) (CompEnd h₀ L m { sx with heap := h, toks := tk } I oI C oC D (lst ys) S (fun y news' => Inv (i + 1) (ys ++ [y]) news')) E' s'
        else CompEnd h₀ L m { sx with heap := h, toks := tk } I oI C oC D (lst ys) S (fun _ news' => Inv (i + 1) ys news') Value.none s') E' { sx with heap := h, toks := tk }
noncomputable def TurnP (prog : Program) (w : World) (A : Around) (h₀ : Heap) (L : Addr) (m : Str → Option Value) (env : Env) (elt : PySem.Expr) (x x₂ : Str) (scope : Scope) (cl : List (Str × Addr)) (s : Shared) (S : List (Addr × Obj) → Prop) (P : Nat → Value → Prop)
    (Inv : Nat → List Value → List (Addr × Obj) → Prop) (i : Nat) (ys : List Value) (news : List (Addr × Obj)) : Prop :=
  ∀ v, P i v → ∃ (t : Addr) (ot : Obj) (v₁ v₂ : Value) (nt : Nat), v = .ref t ∧ (t, ot) ∈ news ∧ ot.cls = .type "tuple" ∧ ot.data = .seq #[v₁, v₂] nt ∧
      ∀ (sx : Shared) I oI C oC D m₂ h tk (E' : Value → Shared → Prop), NsObj oC m₂ → m₂ x = some v₁ → m₂ x₂ = some v₂ → Fr h₀ L h m → News h₀ L h ((I, oI) :: (C, oC) :: (D, lst ys) :: news) → Off3 I C D news → ((@Ne Nat I C) ∧ (@Ne Nat I D) ∧ (@Ne Nat C D)) →
      wpAny (model prog w) A (eval elt (compEnvC scope cl C env)) (CompEnd h₀ L m { sx with heap := h, toks := tk } I oI C oC D (lst ys) S (fun y news' => Inv (i + 1) (ys ++ [y]) news')) E' { sx with heap := h, toks := tk }
section
variable {ct elt : PySem.Expr} {x x₂ : Str} {scope : Scope} {cl : List (Str × Addr)} {S : List (Addr × Obj) → Prop} {P : Nat → Value → Prop} {Fin : List Value → List (Addr × Obj) → Prop} {n : Nat} (Inv : Nat → List Value → List (Addr × Obj) → Prop)
theorem restU (turn : ∀ i ys news, i < n → Inv i ys news → TurnU prog w A h₀ L m env elt x scope cl s S P Inv i ys news) (fin : ∀ ys news, Inv n ys news → Fin ys news) {ys : List Value} {news : List (Addr × Obj)} (h0 : Inv 0 ys news) :
    CompRest prog w A h₀ L m env elt x scope cl s S P Fin n 0 ys news := by
  have all : ∀ k i ys news, i + k = n → Inv i ys news → CompRest prog w A h₀ L m env elt x scope cl s S P Fin k i ys news := by
    intro k
    induction k with
    | zero => intro i ys news e h; exact fin _ _ (by rw [← e]; exact h)
    | succ k ih =>
      intro i ys news e h
      refine CompRest.succ fun v I oI C oC D m₂ hh tk E' a b c d f g j => ?_
      exact wpAny_mono (turn i ys news (by omega) h s v I oI C oC D m₂ hh tk E' a b c d f g j) (fun y s' q => CompEnd.weak q fun y nw hq => ih (i + 1) _ _ (by omega) hq) fun _ _ e => e
  exact all n 0 ys news (by omega) h0
theorem restT (turn : ∀ i ys news, i < n → Inv i ys news → TurnT prog w A h₀ L m env ct elt x scope cl s S P Inv i ys news) (fin : ∀ ys news, Inv n ys news → Fin ys news) {ys : List Value} {news : List (Addr × Obj)} (h0 : Inv 0 ys news) :
    CompRestT prog w A h₀ L m env ct elt x scope cl s S P Fin n 0 ys news := by
  have all : ∀ k i ys news, i + k = n → Inv i ys news → CompRestT prog w A h₀ L m env ct elt x scope cl s S P Fin k i ys news := by
    intro k
    induction k with
    | zero => intro i ys news e h; exact fin _ _ (by rw [← e]; exact h)
    | succ k ih =>
      intro i ys news e h
      refine CompRestT.succ fun v I oI C oC D m₂ hh tk E' a b c d f g j => ?_
      refine wpAny_mono (turn i ys news (by omega) h s v I oI C oC D m₂ hh tk E' a b c d f g j) (fun ok s' q => ?_) fun _ _ e => e
      cases ok with
      | true =>
        simp only [if_true] at q ⊢
        exact wpAny_mono q (fun y s' q => CompEnd.weak q fun y nw hq => ih (i + 1) _ _ (by omega) hq) fun _ _ e => e
      | false =>
        simp only [Bool.false_eq_true, if_false] at q ⊢
        exact CompEnd.weak q fun y nw hq => ih (i + 1) _ _ (by omega) hq
  exact all n 0 ys news (by omega) h0
theorem restP (turn : ∀ i ys news, i < n → Inv i ys news → TurnP prog w A h₀ L m env elt x x₂ scope cl s S P Inv i ys news) (fin : ∀ ys news, Inv n ys news → Fin ys news) {ys : List Value} {news : List (Addr × Obj)} (h0 : Inv 0 ys news) :
    CompRestP prog w A h₀ L m env elt x x₂ scope cl s S P Fin n 0 ys news := by
  have all : ∀ k i ys news, i + k = n → Inv i ys news → CompRestP prog w A h₀ L m env elt x x₂ scope cl s S P Fin k i ys news := by
    intro k
    induction k with
    | zero => intro i ys news e h; exact fin _ _ (by rw [← e]; exact h)
    | succ k ih =>
      intro i ys news e h
      refine CompRestP.succ fun v hv => ?_
      obtain ⟨t, ot, v₁, v₂, nt, q1, q2, q3, q4, q5⟩ := turn i ys news (by omega) h v hv
      refine ⟨t, ot, v₁, v₂, nt, q1, q2, q3, q4, fun I oI C oC D m₂ hh tk E' b c c' d f g j => ?_⟩
      exact wpAny_mono (q5 s I oI C oC D m₂ hh tk E' b c c' d f g j) (fun y s' q => CompEnd.weak q fun y nw hq => ih (i + 1) _ _ (by omega) hq) fun _ _ e => e
  exact all n 0 ys news (by omega) h0
end

theorem dict_st {I : Addr} {ep : Nat} (ha : KdkAt (intKind prog w) o kvs ep) : ∀ i (h h' : Heap) (oI : Obj) (nw : List (Addr × Obj)), (h.IsKeyIter I d i kvs.length ep ∧ h.DictAt (intKind prog w) d kvs ep) → h.get? I = some oI → h'.get? I = some oI → (∀ b o, h₀.get? b = some o → h'.get? b = some o) → News h₀ L h' nw → (d, o) ∈ nw →
    (h'.IsKeyIter I d i kvs.length ep ∧ h'.DictAt (intKind prog w) d kvs ep) :=
  fun i h h' oI nw st e e' _ N S => ⟨by obtain ⟨o', q, r⟩ := st.1; rw [e] at q; cases q; exact ⟨oI, e', r⟩, ha.dictAt (N _ S).1⟩
noncomputable def SrcD (prog : Program) (w : World) (A : Around) (h₀ : Heap) (L : Addr) (m : Str → Option Value) (R : Addr → Obj → List (Int × Value) → Shared → List (Addr × Obj) → Prop) (xv : Value) (s₁ : Shared) : Prop :=
  ∃ d o kvs news, xv = .ref d ∧ A.handled = none ∧ Fr h₀ L s₁.heap m ∧ News h₀ L s₁.heap news ∧ (d, o) ∈ news ∧ (d == sysModules) = false ∧ o.IsDictOf (intKind prog w) kvs ∧ kvs.length ≤ sizeLine ∧
    ∀ s₂ : Shared, (∃ h, s₂ = { s₁ with heap := h }) → R d o kvs s₂ news
noncomputable def KeyAt (prog : Program) (w : World) (kvs : List (Int × Value)) (i : Nat) (v : Value) : Prop := ∃ k x, kvs[i]? = some (k, x) ∧ (intKind prog w).is k v = true
theorem KeyAt.int {i : Nat} {v : Value} (h : KeyAt prog w kvs i v) : ∃ k x t, kvs[i]? = some (k, x) ∧ v = .int k t := by
  obtain ⟨k, x, h1, h2⟩ := h
  obtain ⟨t, rfl⟩ := Value.isInt_shape h2
  exact ⟨k, x, t, h1, rfl⟩

theorem comp_dictT {ct elt iter : PySem.Expr} {x : Str} {px : Pos} {scope : Scope} {cl : List (Str × Addr)} {pos : Pos} {Q : Value → Shared → Prop} (F₀ : Fr h₀ L s.heap m)
    (hclos : closureFor scope env = pure cl) (hcell : ∀ y ∈ scope.names, y.2 ≠ .cell) (hkind : scope.kind = .function)
    (hnames : ∀ y ∈ scope.names, y.2 = .local → scope.names.lookup y.1 = some .local) (hx : scope.names.lookup x = some .local)
    (h : wpAny (model prog w) A (eval iter env) (SrcD prog w A h₀ L m (fun d o kvs s₂ news => CompRestT prog w A h₀ L m env ct elt x scope cl s₂ (fun nw => (d, o) ∈ nw) (KeyAt prog w kvs) (FinE h₀ L m s₂ Q) kvs.length 0 [] news)) E s)
    (hs : ∀ x, foldedSetIterable iter env x = pure x := by intro _; rfl) :
    wpAny (model prog w) A (eval (.ListComp elt [⟨.Name x px, iter, [ct], 0⟩] scope pos) env) Q E s := by
  rw [eval_ListComp]
  refine wpAny_comprehension_free (use := none) rfl hs hclos hkind hnames (wpAny_mono h (fun xv s₁ h₁ => ?_) fun _ _ e => e)
  obtain ⟨d, o, kvs, news, rfl, hh, F, N, hm, lo, hd, hsz, R⟩ := h₁
  obtain ⟨ep, ha⟩ := KdkAt.of hd
  have hda := ha.dictAt (N _ hm).1
  have hlt : d < s₁.heap.objs.size := Heap.lt_size (N _ hm).1
  refine wpAny_pyIter_dict lo hda ?_
  have up : ∀ b o, s₁.heap.get? b = some o → (s₁.heap.push { cls := .type "dict_keyiterator", data := .fields #[.ref d, .int 0 0, .int kvs.length 0, .int ep 0] }).get? b = some o := fun b o e => Heap.get?_push_of_some _ e
  refine block_T (Walks.dictKeys hh s₁.heap.objs.size d (Nat.ne_of_lt hlt) kvs ep) hsz (fun i h st => by obtain ⟨o, e, _⟩ := st.1; exact ⟨o, e⟩) (dict_st ha) hcell hkind hx ⟨⟨_, Heap.get?_push_size _ rfl, rfl, rfl⟩, hda.push _⟩ (fun b hb => ?_)
    (F.keeps up) (N.grown up) (Nat.ne_of_lt F.ns.lt) (next_is_new F) (fun p hp => Nat.ne_of_lt (Heap.lt_size (N p hp).1)) hm (R _ ⟨_, rfl⟩) ?_
  · show b < (s₁.heap.push _).objs.size
    rw [Heap.size_push]
    rcases List.mem_cons.mp hb with rfl | hb
    · exact Nat.lt_succ_self _
    · rw [List.mem_singleton.mp hb]; exact Nat.lt_succ_of_lt hlt
  · intro D C h tk m' ys news' F' N' o1 hn hC₀ hD₀ hCL hDL hCD offC fin
    refine ⟨m', hn, fun h'' hs'' => fin D h'' tk (F'.change hs'' hCL hC₀) (fun p hp => ?_) o1⟩
    refine ⟨hs''.extBut _ _ ?_ (N' p hp).1, (N' p hp).2⟩
    rcases List.mem_cons.mp hp with rfl | hp
    · exact Ne.symm hCD
    · exact offC p hp
theorem comp_dictU {elt iter : PySem.Expr} {x : Str} {px : Pos} {scope : Scope} {cl : List (Str × Addr)} {pos : Pos} {Q : Value → Shared → Prop} (F₀ : Fr h₀ L s.heap m)
    (hclos : closureFor scope env = pure cl) (hcell : ∀ y ∈ scope.names, y.2 ≠ .cell) (hkind : scope.kind = .function)
    (hnames : ∀ y ∈ scope.names, y.2 = .local → scope.names.lookup y.1 = some .local) (hx : scope.names.lookup x = some .local)
    (h : wpAny (model prog w) A (eval iter env) (SrcD prog w A h₀ L m (fun d o kvs s₂ news => CompRest prog w A h₀ L m env elt x scope cl s₂ (fun nw => (d, o) ∈ nw) (KeyAt prog w kvs) (FinE h₀ L m s₂ Q) kvs.length 0 [] news)) E s)
    (hs : ∀ x, foldedSetIterable iter env x = pure x := by intro _; rfl) :
    wpAny (model prog w) A (eval (.ListComp elt [⟨.Name x px, iter, [], 0⟩] scope pos) env) Q E s := by
  rw [eval_ListComp]
  refine wpAny_comprehension_free (use := none) rfl hs hclos hkind hnames (wpAny_mono h (fun xv s₁ h₁ => ?_) fun _ _ e => e)
  obtain ⟨d, o, kvs, news, rfl, hh, F, N, hm, lo, hd, hsz, R⟩ := h₁
  obtain ⟨ep, ha⟩ := KdkAt.of hd
  have hda := ha.dictAt (N _ hm).1
  have hlt : d < s₁.heap.objs.size := Heap.lt_size (N _ hm).1
  refine wpAny_pyIter_dict lo hda ?_
  have up : ∀ b o, s₁.heap.get? b = some o → (s₁.heap.push { cls := .type "dict_keyiterator", data := .fields #[.ref d, .int 0 0, .int kvs.length 0, .int ep 0] }).get? b = some o := fun b o e => Heap.get?_push_of_some _ e
  refine block_U (Walks.dictKeys hh s₁.heap.objs.size d (Nat.ne_of_lt hlt) kvs ep) hsz (fun i h st => by obtain ⟨o, e, _⟩ := st.1; exact ⟨o, e⟩) (dict_st ha) hcell hkind hx ⟨⟨_, Heap.get?_push_size _ rfl, rfl, rfl⟩, hda.push _⟩ (fun b hb => ?_)
    (F.keeps up) (N.grown up) (Nat.ne_of_lt F.ns.lt) (next_is_new F) (fun p hp => Nat.ne_of_lt (Heap.lt_size (N p hp).1)) hm (R _ ⟨_, rfl⟩) ?_
  · show b < (s₁.heap.push _).objs.size
    rw [Heap.size_push]
    rcases List.mem_cons.mp hb with rfl | hb
    · exact Nat.lt_succ_self _
    · rw [List.mem_singleton.mp hb]; exact Nat.lt_succ_of_lt hlt
  · intro D C h tk m' ys news' F' N' o1 hn hC₀ hD₀ hCL hDL hCD offC fin
    refine ⟨m', hn, fun h'' hs'' => fin D h'' tk (F'.change hs'' hCL hC₀) (fun p hp => ?_) o1⟩
    refine ⟨hs''.extBut _ _ ?_ (N' p hp).1, (N' p hp).2⟩
    rcases List.mem_cons.mp hp with rfl | hp
    · exact Ne.symm hCD
    · exact offC p hp
end
end
section
set_option maxRecDepth 100000
/-- a run of a tree of questions whose answers are known -/
noncomputable def Asks {α : Type} (n : Nat) (lt : Nat → Nat → Bool) : KasT α → (α → Prop) → Prop
  | .ret a, Q => Q a
  | .ask i j k, Q => i < n ∧ j < n ∧ Asks n lt (k (lt i j)) Q
section
variable {n : Nat} {lt : Nat → Nat → Bool}
theorem Asks.bind {α β : Type} {f : α → KasT β} {Q : β → Prop} : ∀ {t : KasT α}, Asks n lt t (fun a => Asks n lt (f a) Q) → Asks n lt (t.bind f) Q
  | .ret _, h => h
  | .ask _ _ k, h => ⟨h.1, h.2.1, Asks.bind (t := k _) h.2.2⟩
theorem Asks.mono {α : Type} {Q Q' : α → Prop} (hq : ∀ a, Q a → Q' a) : ∀ {t : KasT α}, Asks n lt t Q → Asks n lt t Q'
  | .ret _, h => hq _ h
  | .ask _ _ k, h => ⟨h.1, h.2.1, Asks.mono hq (t := k _) h.2.2⟩
theorem Asks.wp {α : Type} {cmp : Nat → Nat → (Bool → Shared → Prop) → Shared → Prop} {s : Shared} (hc : ∀ i j C, i < n → j < n → C (lt i j) s → cmp i j C s) {Q : α → Prop} {G : α → Shared → Prop} (hg : ∀ a, Q a → G a s) :
    ∀ {t : KasT α}, Asks n lt t Q → t.kasWp cmp G s
  | .ret _, h => hg _ h
  | .ask i j k, h => hc i j _ h.1 h.2.1 (Asks.wp hc hg (t := k _) h.2.2)

/-- a strict total order on the places below n -/
structure LtOrd (n : Nat) (lt : Nat → Nat → Bool) : Prop where
  irr : ∀ i, lt i i = false
  tr : ∀ i j k, i < n → j < n → k < n → lt i j = true → lt j k = true → lt i k = true
  tot : ∀ i j, i < n → j < n → i ≠ j → lt i j = true ∨ lt j i = true
noncomputable def Pm (n : Nat) (p : Array Nat) : Prop := p.toList.Perm (List.range n)
noncomputable def gp (p : Array Nat) (i : Nat) : Nat := p.getD i 0
theorem Pm.size {p : Array Nat} (h : Pm n p) : p.size = n := by
  have := h.length_eq
  simpa using this
theorem gp_get {p : Array Nat} {i : Nat} (h : i < p.size) : p[i]? = some (gp p i) := by
  unfold gp; simp [Array.getD, h]
theorem gp_of {p q : Array Nat} {i j : Nat} (h : p[i]? = q[j]?) : gp p i = gp q j := by
  unfold gp
  rw [Array.getD_eq_getD_getElem?, Array.getD_eq_getD_getElem?, h]
theorem Pm.bd {p : Array Nat} (h : Pm n p) {i : Nat} (hi : i < n) : gp p i < n := by
  have hs := h.size
  have hm : gp p i ∈ p.toList := by
    unfold gp
    have hi' : i < p.size := by omega
    simp [Array.getD, hi']
  exact List.mem_range.mp (h.mem_iff.mp hm)
theorem Pm.inj {p : Array Nat} (h : Pm n p) {i j : Nat} (hi : i < n) (hj : j < n) (e : i ≠ j) : gp p i ≠ gp p j := by
  have hs := h.size
  have hnd : p.toList.Nodup := h.nodup_iff.mpr List.nodup_range
  intro he
  have hi' : i < p.toList.length := by simp; omega
  have hj' : j < p.toList.length := by simp; omega
  have e1 : p.toList[i] = gp p i := by
    have hi2 : i < p.size := by omega
    unfold gp; simp [Array.getD, hi2]
  have e2 : p.toList[j] = gp p j := by
    have hj2 : j < p.size := by omega
    unfold gp; simp [Array.getD, hj2]
  have hpw := List.pairwise_iff_getElem.mp hnd
  rcases Nat.lt_or_gt_of_ne e with h1 | h1
  · exact hpw i j hi' hj' h1 (by rw [e1, e2, he])
  · exact hpw j i hj' hi' h1 (by rw [e1, e2, he])
theorem Pm.of {p q : Array Nat} (h : Pm n p) (hq : q.Perm p) : Pm n q := (Array.perm_iff_toList_perm.mp hq).trans h
theorem Pm.rev {p : Array Nat} (h : Pm n p) (m : Nat) : Pm n (kas_rev p 0 m) := h.of (mirror_perm _ _ _ _)
theorem gp_rev {p : Array Nat} {m i : Nat} (hm : m ≤ p.size) : gp (kas_rev p 0 m) i = if i < m then gp p (m - 1 - i) else gp p i := by
  have e := getElem?_mirror_all (xs := p) (i := 0) hm i
  by_cases h : i < m
  · rw [if_pos h]
    rw [if_pos ⟨Nat.zero_le _, h⟩] at e
    exact gp_of (by rw [show m - 1 - i = 0 + m - 1 - i by omega]; exact e)
  · rw [if_neg h]
    rw [if_neg (by omega)] at e
    exact gp_of e
theorem gp_bub {p : Array Nat} {k l i : Nat} (hk : k < p.size) (hl : l ≤ k) : gp (bubble p k (k - l)) i = if i = l then gp p k else if l < i ∧ i ≤ k then gp p (i - 1) else gp p i := by
  have e := getElem?_bubble (xs := p) hk (k - l) (by omega) i
  rw [show k - (k - l) = l by omega] at e
  by_cases h : i = l
  · rw [if_pos h] at e ⊢; exact gp_of e
  · rw [if_neg h] at e ⊢
    by_cases h2 : l < i ∧ i ≤ k
    · rw [if_pos h2] at e ⊢; exact gp_of e
    · rw [if_neg h2] at e ⊢; exact gp_of e
noncomputable def Up (lt : Nat → Nat → Bool) (p : Array Nat) (m : Nat) : Prop := ∀ i j, i < j → j < m → lt (gp p i) (gp p j) = true
theorem Up.one {p : Array Nat} : Up lt p 1 := fun i j h1 h2 => by omega
theorem Up.step {p : Array Nat} (o : LtOrd n lt) (hp : Pm n p) {m : Nat} (h1 : 1 ≤ m) (hm : m < n) (h : Up lt p m) (hl : lt (gp p (m - 1)) (gp p m) = true) : Up lt p (m + 1) := by
  intro i j hij hj
  by_cases e : j < m
  · exact h i j hij e
  · have ej : j = m := by omega
    subst ej
    by_cases e2 : i = j - 1
    · rw [e2]; exact hl
    · exact o.tr _ _ _ (hp.bd (by omega)) (hp.bd (by omega)) (hp.bd (by omega)) (h i (j - 1) (by omega) (by omega)) hl
/-- the run upward -/
theorem asc_ok (o : LtOrd n lt) {p : Array Nat} (hp : Pm n p) {Q : Nat → Prop} : ∀ (f m : Nat), 1 ≤ m → m + f = n → Up lt p m →
    (∀ r, m ≤ r → r ≤ n → Up lt p r → (r < n → lt (gp p r) (gp p (r - 1)) = true) → Q r) → Asks n lt (kas_asc p f m) Q
  | 0, m, h1, h2, hu, k => k m (Nat.le_refl _) (by omega) hu (fun h => by omega)
  | f + 1, m, h1, h2, hu, k => by
    refine ⟨hp.bd (by omega), hp.bd (by omega), ?_⟩
    show Asks n lt (if lt (gp p m) (gp p (m - 1)) = true then _ else _) Q
    by_cases hc : lt (gp p m) (gp p (m - 1)) = true
    · rw [if_pos hc]
      exact k m (Nat.le_refl _) (by omega) hu (fun _ => hc)
    · rw [if_neg hc]
      have hlt : lt (gp p (m - 1)) (gp p m) = true := (o.tot _ _ (hp.bd (by omega)) (hp.bd (by omega)) (hp.inj (by omega) (by omega) (by omega))).resolve_right hc
      exact asc_ok o hp f (m + 1) (by omega) (by omega) (hu.step o hp h1 (by omega) hlt) fun r a b c d => k r (by omega) b c d
noncomputable def Dn (lt : Nat → Nat → Bool) (p : Array Nat) (m : Nat) : Prop := ∀ i j, i < j → j < m → lt (gp p j) (gp p i) = true
theorem Dn.step {p : Array Nat} (o : LtOrd n lt) (hp : Pm n p) {m : Nat} (h1 : 1 ≤ m) (hm : m < n) (h : Dn lt p m) (hl : lt (gp p m) (gp p (m - 1)) = true) : Dn lt p (m + 1) := by
  intro i j hij hj
  by_cases e : j < m
  · exact h i j hij e
  · have ej : j = m := by omega
    subst ej
    by_cases e2 : i = j - 1
    · rw [e2]; exact hl
    · exact o.tr _ _ _ (hp.bd (by omega)) (hp.bd (by omega)) (hp.bd (by omega)) hl (h i (j - 1) (by omega) (by omega))
theorem desc_ok (o : LtOrd n lt) {p : Array Nat} (hp : Pm n p) {Q : Array Nat × Nat × Nat → Prop} : ∀ (f m : Nat), 1 ≤ m → m + f = n → Dn lt p m →
    (∀ r, m ≤ r → r ≤ n → Dn lt p r → Q (p, r, 0)) → Asks n lt (kas_desc f p m 0) Q
  | 0, m, h1, h2, hu, k => k m (Nat.le_refl _) (by omega) hu
  | f + 1, m, h1, h2, hu, k => by
    refine ⟨hp.bd (by omega), hp.bd (by omega), ?_⟩
    show Asks n lt (if lt (gp p m) (gp p (m - 1)) = true then _ else _) Q
    by_cases hc : lt (gp p m) (gp p (m - 1)) = true
    · rw [if_pos hc, if_neg (by omega)]
      exact desc_ok o hp f (m + 1) (by omega) (by omega) (hu.step o hp h1 (by omega) hc) fun r a b c => k r (by omega) b c
    · rw [if_neg hc]
      have hlt : lt (gp p (m - 1)) (gp p m) = true := (o.tot _ _ (hp.bd (by omega)) (hp.bd (by omega)) (hp.inj (by omega) (by omega) (by omega))).resolve_right hc
      refine ⟨hp.bd (by omega), hp.bd (by omega), ?_⟩
      show Asks n lt (if lt (gp p (m - 1)) (gp p m) = true then _ else _) Q
      rw [if_pos hlt]
      exact k m (Nat.le_refl _) (by omega) hu
theorem count_ok (o : LtOrd n lt) {p : Array Nat} (hp : Pm n p) (h2 : 2 ≤ n) {Q : Nat × Array Nat → Prop} (k : ∀ r q, 1 ≤ r → r ≤ n → Pm n q → Up lt q r → Q (r, q)) : Asks n lt (kas_count n p) Q := by
  unfold kas_count
  refine Asks.bind (asc_ok o hp (n - 1) 1 (Nat.le_refl _) (by omega) Up.one fun r h1 h3 hu hn => ?_)
  by_cases e : r = n
  · subst e
    rw [if_pos (by simp)]
    exact k r p h1 h3 hp hu
  · rw [if_neg (by simpa using e)]
    by_cases hr : r > 1
    · rw [if_pos hr]
      refine ⟨hp.bd (by omega), hp.bd (by omega), ?_⟩
      show Asks n lt (if lt (gp p 0) (gp p (r - 1)) = true then _ else _) Q
      rw [if_pos (hu 0 (r - 1) (by omega) (by omega))]
      exact k r p h1 h3 hp hu
    · rw [if_neg hr]
      have er : r = 1 := by omega
      subst er
      unfold kas_descPart
      have hd2 : Dn lt p 2 := by
        intro i j hij hj
        have ei : i = 0 := by omega
        have ej : j = 1 := by omega
        rw [ei, ej]
        exact hn (by omega)
      refine Asks.bind (desc_ok o hp (n - (1 + 1)) (1 + 1) (by omega) (by omega) hd2 fun r h1 h3 hd => ?_)
      rw [if_neg (by simp)]
      unfold kas_tail3
      have hs := hp.size
      have hup : Up lt (kas_rev p 0 r) r := by
        intro i j hij hj
        rw [gp_rev (by omega), gp_rev (by omega), if_pos (by omega), if_pos hj]
        exact hd _ _ (by omega) (by omega)
      refine Asks.bind (asc_ok o (hp.rev r) (n - r) r (by omega) (by omega) hup fun r' h4 h5 hu' _ => ?_)
      exact k r' _ (by omega) h5 (hp.rev r) hu'
theorem place_ok (o : LtOrd n lt) {p : Array Nat} (hp : Pm n p) {k : Nat} (hk : k < n) (hu : Up lt p k) {Q : Nat → Prop} : ∀ (f l r : Nat), l ≤ r → r ≤ k → r - l ≤ f → (∀ i, i < l → lt (gp p i) (gp p k) = true) → (∀ i, r ≤ i → i < k → lt (gp p k) (gp p i) = true) →
    (∀ x, x ≤ k → (∀ i, i < x → lt (gp p i) (gp p k) = true) → (∀ i, x ≤ i → i < k → lt (gp p k) (gp p i) = true) → Q x) → Asks n lt (kas_place p k f l r) Q
  | 0, l, r, h1, h2, h3, ha, hb, q => q l (by omega) ha (fun i hi => hb i (by omega))
  | f + 1, l, r, h1, h2, h3, ha, hb, q => by
    unfold kas_place
    by_cases e : l ≥ r
    · rw [if_pos e]
      exact q l (by omega) ha (fun i hi => hb i (by omega))
    · rw [if_neg e]
      have hm : (l + r) / 2 < k := by omega
      refine ⟨hp.bd hk, hp.bd (by omega), ?_⟩
      show Asks n lt (if lt (gp p k) (gp p ((l + r) / 2)) = true then _ else _) Q
      by_cases hc : lt (gp p k) (gp p ((l + r) / 2)) = true
      · rw [if_pos hc]
        refine place_ok o hp hk hu f l ((l + r) / 2) (by omega) (by omega) (by omega) ha (fun i hi hik => ?_) q
        by_cases e2 : i = (l + r) / 2
        · rw [e2]; exact hc
        · exact o.tr _ _ _ (hp.bd hk) (hp.bd (by omega)) (hp.bd (by omega)) hc (hu _ _ (by omega) hik)
      · rw [if_neg hc]
        have hlt : lt (gp p ((l + r) / 2)) (gp p k) = true := (o.tot _ _ (hp.bd (by omega)) (hp.bd hk) (hp.inj (by omega) hk (by omega))).resolve_right hc
        refine place_ok o hp hk hu f ((l + r) / 2 + 1) r (by omega) h2 (by omega) (fun i hi => ?_) hb q
        by_cases e2 : i = (l + r) / 2
        · rw [e2]; exact hlt
        · exact o.tr _ _ _ (hp.bd (by omega)) (hp.bd (by omega)) (hp.bd hk) (hu _ _ (by omega) hm) hlt
theorem bin_ok (o : LtOrd n lt) {Q : Array Nat → Prop} (q : ∀ p, Pm n p → Up lt p n → Q p) : ∀ (f : Nat) (p : Array Nat) (k : Nat), Pm n p → 1 ≤ k → k + f = n → Up lt p k → Asks n lt (kas_bin f p k) Q
  | 0, p, k, hp, h1, h2, hu => q p hp (by rw [← h2]; exact hu)
  | f + 1, p, k, hp, h1, h2, hu => by
    unfold kas_bin
    have hs := hp.size
    refine Asks.bind (place_ok o hp (by omega) hu k 0 k (Nat.zero_le _) (Nat.le_refl _) (by omega) (fun i hi => by omega) (fun i hi hk => by omega) fun x hx ha hb => ?_)
    refine bin_ok o q f _ (k + 1) (hp.of (bubble_perm _ _ _)) (by omega) (by omega) ?_
    intro i j hij hj
    rw [gp_bub (by omega) hx, gp_bub (by omega) hx]
    by_cases e1 : i = x
    · rw [if_pos e1, if_neg (by omega), if_pos (by omega)]
      exact hb _ (by omega) (by omega)
    · rw [if_neg e1]
      by_cases e2 : j = x
      · rw [if_neg (by omega), if_pos e2]
        exact ha i (by omega)
      · rw [if_neg e2]
        repeat' split
        all_goals first | exact hu _ _ (by omega) (by omega) | omega
theorem sort_ok (o : LtOrd n lt) (h2 : 2 ≤ n) {Q : Array Nat → Prop} (q : ∀ p, Pm n p → Up lt p n → Q p) : Asks n lt (kas_sort n) Q := by
  unfold kas_sort
  refine Asks.bind (count_ok o (p := List.toArray (List.range n)) (List.Perm.refl _) h2 fun r p h1 h3 hp hu => ?_)
  dsimp only
  by_cases e : r < n
  · rw [if_pos e]
    have em : max r 1 = r := by omega
    rw [em]
    exact bin_ok o q _ p r hp h1 (by omega) hu
  · rw [if_neg e]
    have : r = n := by omega
    subst this
    exact q p hp hu
end
end
section
set_option maxRecDepth 100000
section
variable {prog : Program} {w : World} {A : Around} {E : Value → Shared → Prop} {s : Shared} {h₀ : Heap} {L : Addr} {m : Str → Option Value} {news : List (Addr × Obj)}
theorem short_list_sort {a : Addr} {vs : List Value} {n : Nat} {P : PySem.Fin → Shared → Prop} (ho : s.heap.get? a = some (seqObj "list" vs.toArray n)) (h2 : vs.length < 2)
    (h : P (.done (.ret .none)) { s with heap := sortedHeap s.heap a vs vs.toArray }) :
    wpAny (model prog w) A (Builtin.«list.sort» ⟨[.ref a], []⟩) P E s := by
  rw [list_sort_plain]
  have ha : a < s.heap.objs.size := Heap.lt_size ho
  refine wpAny_bind (listItems_at ho rfl ?_)
  refine wpAny_bind (listUpdate_at ho rfl ?_ (by rw [List.size_toArray, sizeLine_eq]; omega) (Nat.zero_le _))
  obtain ⟨e1, ho1⟩ : ∃ e1, (s.heap.update a (Obj.mapSeq fun _ => #[])).get? a = some (seqObj "list" #[] e1) := ⟨_, get?_update_seq ho (fun _ => #[])⟩
  refine wpAny_bind (seqEpoch_at ho1 rfl ?_)
  refine wpAny_bind (wpAny_newTuple ?_ (by show vs.length ≤ _; rw [sizeLine_eq]; omega))
  refine wpAny_bind (wpAny_newList ?_ (Nat.zero_le _))
  refine wpAny_holding ?_
  have ho6 : (((s.heap.update a (Obj.mapSeq fun _ => #[])).push (seqObj "tuple" vs.toArray 0)).push (seqObj "list" #[] 0)).get? a = some (seqObj "list" #[] e1) := by
    rw [Heap.get?_push_ne _ _ _ (by rw [size_push', Heap.size_update]; exact Nat.ne_of_lt (Nat.lt_succ_of_lt ha)), Heap.get?_push_ne _ _ _ (by rw [Heap.size_update]; exact Nat.ne_of_lt ha)]
    exact ho1
  show wpAny (model prog w) A _ P E { s with heap := ((s.heap.update a (Obj.mapSeq fun _ => #[])).push (seqObj "tuple" vs.toArray 0)).push (seqObj "list" #[] 0) }
  dsimp only
  have h2' : vs.toArray.size < 2 := by simpa using h2
  rw [if_pos h2', if_pos h2']
  refine wpAny_bind (wpAny_pure ?_)
  rw [StateT.run_pure]
  refine wpAny_bind (wpAny_pure ?_)
  dsimp only
  have hout : ((arrOf (SortSt.mk' general' (vs.toArray.zip vs.toArray) #[] 7 none)).map (·.2)) = vs.toArray := by
    show ((vs.toArray.zip vs.toArray).map (·.2)) = vs.toArray
    apply Array.ext
    · simp
    · intro i h1 h3; simp
  rw [hout]
  refine wpAny_bind (seqEpoch_at ho6 rfl ?_)
  refine wpAny_bind (listUpdate_at ho6 rfl ?_ (Nat.zero_le _) (by rw [List.size_toArray, sizeLine_eq]; omega))
  simp only [bne_self_eq_false, Bool.false_eq_true, if_false]
  exact wpAny_pure h
theorem short_sorted {l : Addr} {vs : List Value} {Q : Value → Shared → Prop} (F : Fr h₀ L s.heap m) (N : News h₀ L s.heap news) (hl : s.heap.IsList l vs.toArray) (h2 : vs.length < 2)
    (h : ∀ D c h', Fr h₀ L h' m → News h₀ L h' ((D, listOf vs.toArray c) :: news) → (∀ q ∈ news, q.1 < D) → Q (.ref D) { s with heap := h' }) :
    wpAny (model prog w) A (call (.builtin "sorted") [.ref l]) Q E s := by
  refine Calls.call_function_entry kind_sorted plain_sorted entry_sorted (args_sorted1 _) ?_
  unfold Builtin.«sorted»
  refine wpAny_bind (m := checkCount "sorted" 1 1 _) (wpAny_pure ?_)
  refine wpAny_bind (collect_list hl ?_ (by rw [sizeLine_eq]; omega))
  refine wpAny_bind (wpAny_newList ?_ (by rw [sizeLine_eq]; omega))
  have hsz : ((s.heap.push (seqObj "list" #[] 0)).update s.heap.objs.size (Obj.mapSeq (· ++ vs.toArray))).objs.size = s.heap.objs.size + 1 := by
    rw [Heap.size_update, size_push']
  have hoL : (((s.heap.push (seqObj "list" #[] 0)).update s.heap.objs.size (Obj.mapSeq (· ++ vs.toArray))).push (seqObj "list" vs.toArray 0)).get? (s.heap.objs.size + 1) = some (seqObj "list" vs.toArray 0) := by
    rw [← hsz]; exact Heap.get?_push_size _ rfl
  show wpAny _ _ _ _ _ { s with heap := ((s.heap.push (seqObj "list" #[] 0)).update s.heap.objs.size (Obj.mapSeq (· ++ vs.toArray))).push (seqObj "list" vs.toArray 0) }
  rw [hsz]
  refine wpAny_bind (wpAny_holding (wpAny_call_entry slot_list_sort ⟨_, hoL, rfl⟩ entry_list_sort (short_list_sort hoL h2 ⟨_, rfl, ?_⟩) (args_list_sort _)))
  obtain ⟨e, he⟩ := sortedAll_at s.heap vs vs.toArray
  exact wpAny_pure ⟨_, rfl, h _ e _ (F.kept fun _ _ => sortedAll_old) (N.kept_cons F (fun _ _ => sortedAll_old) (Nat.le_succ _) he) fun p hp => Nat.lt_succ_of_lt (Heap.lt_size (N p hp).1)⟩

noncomputable def rowD (r : Int × Int) : Dat := .tuple [.int r.1, .int r.2]
noncomputable def lexlt (a b : Int × Int) : Bool := decide (a.1 < b.1 ∨ (a.1 = b.1 ∧ a.2 < b.2))
noncomputable def rowLt (rs : List (Int × Int)) (i j : Nat) : Bool := lexlt (rs.getD i (0, 0)) (rs.getD j (0, 0))
theorem getD_get {α : Type} {l : List α} {i : Nat} {d : α} (h : i < l.length) : l.getD i d = l[i] := by simp [List.getD, h]
theorem row_at {L9 : List (Addr × Obj)} {ys : List Value} {rs : List (Int × Int)} (h : DatAll L9 ys (rs.map rowD)) {i : Nat} (hi : i < rs.length) : ∃ (a : Addr) (t u : Tok) (n : Nat),
    ys[i]? = some (.ref a) ∧ (a, ({ cls := .type "tuple", data := .seq (List.toArray [.int (rs[i]).1 t, .int (rs[i]).2 u]) n } : Obj)) ∈ L9 := by
  obtain ⟨v, hv, hD⟩ := h.get (k := i) (by simpa using hi)
  have e : (rs.map rowD)[i]'(by simpa using hi) = rowD rs[i] := by simp
  rw [e] at hD
  cases hD with
  | tuple hm hr =>
    cases hr with
    | cons h1 hr =>
      cases hr with
      | cons h2 hr =>
        cases hr
        cases h1
        cases h2
        exact ⟨_, _, _, _, hv, hm⟩
theorem rowOrd {rs : List (Int × Int)} (hn : rs.Nodup) : LtOrd rs.length (rowLt rs) where
  irr := fun i => by simp [rowLt, lexlt]
  tr := fun i j k _ _ _ h1 h2 => by
    simp only [rowLt, lexlt, decide_eq_true_eq] at *
    omega
  tot := fun i j hi hj e => by
    have hpw := List.pairwise_iff_getElem.mp hn
    have hne : rs[i] ≠ rs[j] := by
      rcases Nat.lt_or_gt_of_ne e with h1 | h1
      · exact hpw i j hi hj h1
      · exact fun q => hpw j i hj hi h1 q.symm
    have hne' : (rs[i]).1 ≠ (rs[j]).1 ∨ (rs[i]).2 ≠ (rs[j]).2 := by
      by_cases h1 : (rs[i]).1 = (rs[j]).1
      · right; exact fun h2 => hne (Prod.ext h1 h2)
      · exact .inl h1
    simp only [rowLt, lexlt, getD_get hi, getD_get hj, decide_eq_true_eq]
    omega
theorem rowTups {L9 : List (Addr × Obj)} {h : Heap} (hN : ∀ p ∈ L9, h.get? p.1 = some p.2) : ∀ {ys : List Value} {rs : List (Int × Int)}, DatAll L9 ys (rs.map rowD) → ∃ fs, KatTups h ys fs ∧ fs.length = rs.length ∧ ∀ v ∈ fs, ∃ i t, v = Value.int i t
  | [], [], _ => ⟨[], KatTups.nil, rfl, fun _ h => nomatch h⟩
  | [], _ :: _, h => nomatch h
  | _ :: _, [], h => nomatch h
  | y :: ys, r :: rs, .cons h1 h2 => by
    obtain ⟨fs, a, b, c⟩ := rowTups hN h2
    cases h1 with
    | tuple hm hr =>
      cases hr with
      | cons h1 hr =>
        cases hr with
        | cons h2 hr =>
          cases hr
          cases h1
          cases h2
          refine ⟨_ :: fs, KatTups.cons (hN _ hm) rfl rfl rfl a, by simp [b], fun v hv => ?_⟩
          rcases List.mem_cons.mp hv with rfl | hv
          · exact ⟨_, _, rfl⟩
          · exact c v hv
theorem rowPick {L9 : List (Addr × Obj)} {ys : List Value} {rs : List (Int × Int)} (h : DatAll L9 ys (rs.map rowD)) : ∀ (is : List Nat), (∀ i ∈ is, i < rs.length) →
    DatAll L9 (is.map fun i => ys.getD i Value.none) ((is.map fun i => rs.getD i (0, 0)).map rowD)
  | [], _ => .nil
  | i :: is, hi => by
    have hi' := hi i List.mem_cons_self
    obtain ⟨v, hv, hD⟩ := h.get (k := i) (by simpa using hi')
    have e : (rs.map rowD)[i]'(by simpa using hi') = rowD rs[i] := by simp
    rw [e] at hD
    refine .cons ?_ (rowPick h is fun j hj => hi j (List.mem_cons_of_mem _ hj))
    have e2 : ys.getD i Value.none = v := by simp [List.getD, hv]
    show DatIn L9 (ys.getD i Value.none) (rowD (rs.getD i (0, 0)))
    rw [e2, getD_get hi']
    exact hD
theorem sorted_rows {D : Addr} {n : Nat} {ys : List Value} {rs : List (Int × Int)} {L9 : List (Addr × Obj)} {Q : Value → Shared → Prop} (F : Fr h₀ L s.heap m) (N : News h₀ L s.heap news) (hm : (D, listOf ys.toArray n) ∈ news)
    (hA : DatAll L9 ys (rs.map rowD)) (hL : ∀ p ∈ L9, p ∈ news) (hn : rs.Nodup) (h64 : rs.length < 60)
    (h : ∀ (D' : Addr) (ys' : List Value) (rs' : List (Int × Int)) (c : Nat) (h' : Heap), Fr h₀ L h' m → News h₀ L h' ((D', listOf ys'.toArray c) :: news) → (∀ q ∈ news, q.1 < D') → rs'.Perm rs → rs'.Pairwise (fun a b => lexlt a b = true) → DatAll L9 ys' (rs'.map rowD) → Q (.ref D') { s with heap := h' }) :
    wpAny (model prog w) A (call (.builtin "sorted") [.ref D]) Q E s := by
  have hlen : ys.length = rs.length := by simpa using hA.length
  have hl : s.heap.IsList D ys.toArray := ⟨_, (N _ hm).1, rfl, n, rfl⟩
  by_cases h2 : ys.length < 2
  · refine short_sorted F N hl h2 fun D' c h' F' N' lt => h D' ys rs c h' F' N' lt (List.Perm.refl _) ?_ hA
    match rs, hlen with
    | [], _ => exact .nil
    | [a], _ => exact List.pairwise_singleton _ _
    | _ :: _ :: _, e => simp at e; omega
  · refine kat_sorted F N hl (by omega) (by omega) fun D' e1 h' F' N' lt => ?_
    have hN' : ∀ p ∈ L9, h'.get? p.1 = some p.2 := fun p hp => (N' p (List.mem_cons_of_mem _ (hL p hp))).1
    obtain ⟨fs, hT, hfl, hfi⟩ := rowTups hN' hA
    refine kat_kind (s := { s with heap := h' }) (T := .type "int") hT (by omega) (fun v hv => ?_) rfl ?_
    · obtain ⟨i, t, rfl⟩ := hfi v hv
      exact Looks.of_pure rfl
    · rw [show (Value.type "int" != Value.type "tuple") = true from by decide]
      have hq : ∀ p, Pm rs.length p → Up (rowLt rs) p rs.length → KasFin h₀ L m D' e1 (p.toList.map fun i => ys.getD i Value.none) (fun s3 => Q (.ref D') s3) { s with heap := h' } := by
        intro p hp hu
        refine KasFin.intro F' N' (UpdF.head fun q hq => Nat.ne_of_lt (lt q hq)) fun h'' c F'' N'' => ?_
        have hs := hp.size
        have hb : ∀ i ∈ p.toList, i < rs.length := fun i hi => List.mem_range.mp (hp.mem_iff.mp hi)
        refine h D' _ (p.toList.map fun i => rs.getD i (0, 0)) c h'' F'' N'' lt ?_ ?_ (rowPick hA _ hb)
        · have e : (List.range rs.length).map (fun i => rs.getD i (0, 0)) = rs := by
            apply List.ext_getElem
            · simp
            · intro i h1 h3
              simp at h1
              simp [h1]
          have := List.Perm.map (fun i => rs.getD i (0, 0)) hp
          rwa [e] at this
        · rw [List.pairwise_map, List.pairwise_iff_getElem]
          intro i j hi hj hij
          have hj' : j < rs.length := by rw [Array.length_toList, hs] at hj; exact hj
          have hi' : i < rs.length := by omega
          have e1 : p.toList[i] = gp p i := by
            have : i < p.size := by omega
            unfold gp; simp [Array.getD, this]
          have e2 : p.toList[j] = gp p j := by
            have : j < p.size := by omega
            unfold gp; simp [Array.getD, this]
          rw [e1, e2]
          exact hu i j hij hj'
      rw [hlen]
      refine Asks.wp (n := rs.length) (lt := rowLt rs) (Q := fun p => Pm rs.length p ∧ Up (rowLt rs) p rs.length) (fun i j C hi hj hC => ?_) (fun p hp => hq p hp.1 hp.2) (sort_ok (rowOrd hn) (by omega) fun p a b => ⟨a, b⟩)
      obtain ⟨a1, t1, u1, n1, e1, m1⟩ := row_at hA hi
      obtain ⟨a2, t2, u2, n2, e2, m2⟩ := row_at hA hj
      unfold kas_ask
      have g1 : ys.getD i Value.none = .ref a1 := by simp [List.getD, e1]
      have g2 : ys.getD j Value.none = .ref a2 := by simp [List.getD, e2]
      rw [g1, g2]
      refine kat_lt (hN' _ m1) rfl (hN' _ m2) rfl ?_
      have hlt : rowLt rs i j = lexlt rs[i] rs[j] := by unfold rowLt; rw [getD_get hi, getD_get hj]
      rw [hlt] at hC
      refine kat_cons (wpAny_eqBool_int ?_)
      by_cases q1 : (rs[i]).1 = (rs[j]).1
      · rw [show ((rs[i]).1 == (rs[j]).1) = true from by simpa using q1]
        refine kat_yes (kat_cons (wpAny_eqBool_int ?_))
        by_cases q2 : (rs[i]).2 = (rs[j]).2
        · rw [show ((rs[i]).2 == (rs[j]).2) = true from by simpa using q2]
          refine kat_yes (kat_nil ?_)
          have : lexlt rs[i] rs[j] = false := by simp [lexlt, q1, q2]
          rw [this] at hC
          exact hC
        · rw [show ((rs[i]).2 == (rs[j]).2) = false from by simpa using q2]
          refine kat_no ?_
          have : lexlt rs[i] rs[j] = decide ((rs[i]).2 < (rs[j]).2) := by simp [lexlt, q1]
          rw [this] at hC
          exact kat_one _ _ (PyProof.Rows.lt_int hC)
      · rw [show ((rs[i]).1 == (rs[j]).1) = false from by simpa using q1]
        refine kat_no (oneLt_int ?_)
        have : lexlt rs[i] rs[j] = decide ((rs[i]).1 < (rs[j]).1) := by simp [lexlt, q1]
        rw [this] at hC
        exact hC
end
end
section
set_option maxRecDepth 100000
section
variable {prog : Program} {w : World} {A : Around} {E : Value → Shared → Prop} {s : Shared} {env : Env} {h₀ : Heap} {target : PySem.Expr} {body : List Stmt} {Q : Flow → Shared → Prop}
theorem items_ind {c : String} {keep : List (Addr × Obj)} {xs : List Itm} {I : Addr} (Inv : Nat → (Str → Option Value) → List (Addr × Obj) → Prop) (hkeep : ∀ i m nx, Inv i m nx → SubL keep nx)
    (turn : ∀ i a m nx v h tk it, xs[i]? = some a → Inv i m nx → (∀ p ∈ nx, p.1 ≠ I) → a.Is v h → it.cls = .type c → Fr h₀ env.locals h m → News h₀ env.locals h ((I, it) :: nx) →
      wpAny (model prog w) A (assign target env v) (fun _ s₂ => wpAny (model prog w) A (execs body env) (UnrPostW h₀ env.locals { s with heap := h, toks := tk } [(I, it)] (Inv (i + 1)) Q) E s₂) E { s with heap := h, toks := tk })
    (done : ∀ m nx h tk, Inv xs.length m nx → Fr h₀ env.locals h m → News h₀ env.locals h nx → Q .next { s with heap := h, toks := tk })
    {m₀ : Str → Option Value} {news : List (Addr × Obj)} (h0 : Inv 0 m₀ news) (off : ∀ p ∈ news, p.1 ≠ I) : ItemsRest prog w A E h₀ env target body Q s [(I, c)] keep xs m₀ news := by
  have all : ∀ k i m nx, i + k = xs.length → Inv i m nx → (∀ p ∈ nx, p.1 ≠ I) → ItemsRest prog w A E h₀ env target body Q s [(I, c)] keep (xs.drop i) m nx := by
    intro k
    induction k with
    | zero =>
      intro i m nx e hi _
      rw [List.drop_eq_nil_of_le (by omega)]
      intro h tk F N
      exact done m nx h tk (by rw [← e]; exact hi) F N
    | succ k ih =>
      intro i m nx e hi ho
      have hlt : i < xs.length := by omega
      rw [List.drop_eq_getElem_cons hlt]
      intro v h tk hv F it hit N
      refine wpAny_mono (turn i xs[i] m nx v h tk it (List.getElem?_eq_getElem hlt) hi ho hv hit F N) (fun _ s₂ h₂ => wpAny_mono h₂ (fun f s₃ p => ?_) fun _ _ e => e) fun _ _ e => e
      have fin : UnrEndW h₀ env.locals { s with heap := h, toks := tk } [(I, it)] (Inv (i + 1)) s₃ → UnrEndW h₀ env.locals { s with heap := h, toks := tk } [(I, it)] (fun m' n' => SubL keep n' ∧ ItemsRest prog w A E h₀ env target body Q s [(I, c)] keep (xs.drop (i + 1)) m' n') s₃ := by
        rintro ⟨h', tk', m', news', e1, F', N', ho', hi'⟩
        exact ⟨h', tk', m', news', e1, F', N', ho', hkeep _ _ _ hi', ih (i + 1) m' news' (by omega) hi' fun p hp => ho' p hp _ List.mem_cons_self⟩
      cases f with
      | ret v => exact p
      | brk => exact p
      | next => exact fin p
      | cont => exact fin p
  exact all xs.length 0 m₀ news (by omega) h0 off
/-- a for over a list of the ledger -/
theorem for_list {ax : Addr} {vs : List Value} {n : Nat} {m₀ : Str → Option Value} {news : List (Addr × Obj)} (Inv : Nat → (Str → Option Value) → List (Addr × Obj) → Prop)
    (hh : A.handled = none) (F : Fr h₀ env.locals s.heap m₀) (N : News h₀ env.locals s.heap news) (hm : (ax, listOf vs.toArray n) ∈ news)
    (hkeep : ∀ i m nx, Inv i m nx → (ax, listOf vs.toArray n) ∈ nx) (h0 : Inv 0 m₀ news)
    (turn : ∀ (sx : Shared) (Q₁ : Flow → Shared → Prop) i v m nx I it h tk, vs[i]? = some v → Inv i m nx → (∀ p ∈ nx, p.1 ≠ I) → it.cls = .type "list_iterator" → Fr h₀ env.locals h m → News h₀ env.locals h ((I, it) :: nx) →
      wpAny (model prog w) A (assign target env v) (fun _ s₂ => wpAny (model prog w) A (execs body env) (UnrPostW h₀ env.locals { sx with heap := h, toks := tk } [(I, it)] (Inv (i + 1)) Q₁) E s₂) E { sx with heap := h, toks := tk })
    (done : ∀ m nx h tk, Inv vs.length m nx → Fr h₀ env.locals h m → News h₀ env.locals h nx → Q .next { s with heap := h, toks := tk }) :
    wpAny (model prog w) A (pyIter (.ref ax)) (fun it s₂ => TurnsAt prog w A h₀ env target body Q E it s₂) E s := by
  refine iter_listTurns hh F N hm rfl rfl fun I hI => items_ind (keep := [(ax, listOf vs.toArray n)]) Inv (fun i m nx hi => And.intro (hkeep i m nx hi) trivial) ?_ ?_ h0 fun p hp => Nat.ne_of_lt (hI p hp)
  · intro i a m nx v h tk it ha hi ho hv hc F' N'
    rw [List.getElem?_map] at ha
    obtain ⟨u, hu, rfl⟩ := Option.map_eq_some_iff.mp ha
    have hv' : v = u := hv
    subst hv'
    exact turn _ _ i v m nx I it h tk hu hi ho hc F' N'
  · intro m nx h tk hi F' N'
    rw [List.length_map] at hi
    exact done m nx h tk hi F' N'
theorem for_tup {ax : Addr} {vs : List Value} {n : Nat} {m₀ : Str → Option Value} {news : List (Addr × Obj)} (Inv : Nat → (Str → Option Value) → List (Addr × Obj) → Prop)
    (hh : A.handled = none) (F : Fr h₀ env.locals s.heap m₀) (N : News h₀ env.locals s.heap news) (hm : (ax, ({ cls := .type "tuple", data := .seq vs.toArray n } : Obj)) ∈ news)
    (hkeep : ∀ i m nx, Inv i m nx → (ax, ({ cls := .type "tuple", data := .seq vs.toArray n } : Obj)) ∈ nx) (h0 : Inv 0 m₀ news)
    (turn : ∀ (sx : Shared) (Q₁ : Flow → Shared → Prop) i v m nx I it h tk, vs[i]? = some v → Inv i m nx → (∀ p ∈ nx, p.1 ≠ I) → it.cls = .type "tuple_iterator" → Fr h₀ env.locals h m → News h₀ env.locals h ((I, it) :: nx) →
      wpAny (model prog w) A (assign target env v) (fun _ s₂ => wpAny (model prog w) A (execs body env) (UnrPostW h₀ env.locals { sx with heap := h, toks := tk } [(I, it)] (Inv (i + 1)) Q₁) E s₂) E { sx with heap := h, toks := tk })
    (done : ∀ m nx h tk, Inv vs.length m nx → Fr h₀ env.locals h m → News h₀ env.locals h nx → Q .next { s with heap := h, toks := tk }) :
    wpAny (model prog w) A (pyIter (.ref ax)) (fun it s₂ => TurnsAt prog w A h₀ env target body Q E it s₂) E s := by
  refine iter_tupTurns hh F N hm rfl rfl fun I hI => items_ind (keep := [(ax, ({ cls := .type "tuple", data := .seq vs.toArray n } : Obj))]) Inv (fun i m nx hi => And.intro (hkeep i m nx hi) trivial) ?_ ?_ h0 fun p hp => Nat.ne_of_lt (hI p hp)
  · intro i a m nx v h tk it ha hi ho hv hc F' N'
    rw [List.getElem?_map] at ha
    obtain ⟨u, hu, rfl⟩ := Option.map_eq_some_iff.mp ha
    have hv' : v = u := hv
    subst hv'
    exact turn _ _ i v m nx I it h tk hu hi ho hc F' N'
  · intro m nx h tk hi F' N'
    rw [List.length_map] at hi
    exact done m nx h tk hi F' N'
/-- a for over the keys of a dict of ints of the ledger -/
theorem for_keys {d : Addr} {o : Obj} {kvs : List (Int × Value)} {m₀ : Str → Option Value} {news : List (Addr × Obj)} (Inv : Nat → (Str → Option Value) → List (Addr × Obj) → Prop)
    (hh : A.handled = none) (F : Fr h₀ env.locals s.heap m₀) (N : News h₀ env.locals s.heap news) (hm : (d, o) ∈ news) (lo : (d == sysModules) = false) (hd : o.IsDictOf (intKind prog w) kvs)
    (hkeep : ∀ i m nx, Inv i m nx → (d, o) ∈ nx) (h0 : Inv 0 m₀ news)
    (turn : ∀ (sx : Shared) (Q₁ : Flow → Shared → Prop) i k x t m nx I it h tk, kvs[i]? = some (k, x) → Inv i m nx → (∀ p ∈ nx, p.1 ≠ I) → it.cls = .type "dict_keyiterator" → Fr h₀ env.locals h m → News h₀ env.locals h ((I, it) :: nx) →
      wpAny (model prog w) A (assign target env (.int k t)) (fun _ s₂ => wpAny (model prog w) A (execs body env) (UnrPostW h₀ env.locals { sx with heap := h, toks := tk } [(I, it)] (Inv (i + 1)) Q₁) E s₂) E { sx with heap := h, toks := tk })
    (done : ∀ m nx h tk, Inv kvs.length m nx → Fr h₀ env.locals h m → News h₀ env.locals h nx → Q .next { s with heap := h, toks := tk }) :
    wpAny (model prog w) A (pyIter (.ref d)) (fun it s₂ => TurnsAt prog w A h₀ env target body Q E it s₂) E s := by
  have hax := N _ hm
  obtain ⟨ep, ha⟩ := KdkAt.of hd
  have hat := ha.dictAt hax.1
  have hne : d ≠ s.heap.objs.size := Nat.ne_of_lt hat.lt_size
  refine wpAny_pyIter_dict lo hat ?_
  refine ktu_core (tk0 := s.toks) (keep := [(d, o)]) (xs := kvs.map fun p => Itm.tok (.int p.1)) (ws := [(s.heap.objs.size, "dict_keyiterator")]) (KTurns.ofWalks (Walks.dictKeys (knd := intKind prog w) hh s.heap.objs.size d hne kvs ep) fun i v s Q E st q => letGo_keyiter st.1 q) (by rw [List.length_map]) ?_ ?_ ?_ ?_ ?_ ?_ ?_ ?_ (F.push _) (fun p hp => ⟨Heap.get?_push_of_some _ (N p hp).1, (N p hp).2⟩) (And.intro hm trivial)
    (items_ind (keep := [(d, o)]) Inv (fun i m nx hi => And.intro (hkeep i m nx hi) trivial) ?_ ?_ h0 fun p hp => Nat.ne_of_lt (Heap.lt_size (N p hp).1))
  · rintro i v h ⟨k, x, hx, hk⟩
    obtain ⟨t, rfl⟩ := Value.isInt_shape hk
    exact ⟨.tok (.int k), by rw [List.getElem?_map, hx]; rfl, t, rfl⟩
  · rintro i h ⟨⟨oi, g, c, _⟩, _⟩
    exact ⟨[(s.heap.objs.size, oi)], ⟨⟨rfl, c⟩, trivial⟩, fun p hp => by rw [List.mem_singleton.mp hp]; exact g⟩
  · intro b hb
    have hb' : b = s.heap.objs.size := by simpa using hb
    rw [hb']
    exact ⟨List.mem_cons_self .., next_is_new F⟩
  · intro b hb
    simpa using hb
  · intro b hb
    have hb' : b = s.heap.objs.size ∨ b = d := by simpa using hb
    rcases hb' with e | e
    · exact .inl (by simp [e])
    · exact .inr ⟨o, by simp [e]⟩
  · intro hI
    have hb' : env.locals = s.heap.objs.size ∨ env.locals = d := by simpa using hI
    rcases hb' with e | e
    · exact absurd F.ns.lt (e ▸ Nat.lt_irrefl _)
    · exact hax.2.1 e.symm
  · intro p hp hI
    exact absurd (Heap.lt_size (N p hp).1) ((List.mem_singleton.mp hI) ▸ Nat.lt_irrefl _)
  · exact ⟨⟨_, Heap.get?_push_size _ rfl, rfl, rfl⟩, hat.push _⟩
  · intro i a m nx v h tk it ha hi ho hv hc F' N'
    rw [List.getElem?_map] at ha
    obtain ⟨⟨k, x⟩, hu, rfl⟩ := Option.map_eq_some_iff.mp ha
    obtain ⟨t, rfl⟩ := hv
    exact turn _ _ i k x t m nx _ it h tk hu hi ho hc F' N'
  · intro m nx h tk hi F' N'
    rw [List.length_map] at hi
    exact done m nx h tk hi F' N'
end
section
variable {prog : Program} {w : World} {A : Around} {E : Value → Shared → Prop} {s : Shared} {env : Env} {h₀ : Heap} {x : Str} {body : List Stmt} {Q : Flow → Shared → Prop}
/-- a for over a range, its own iterator's class told -/
theorem for_stepC {σ : Type} {r : Addr} {a₀ b₀ cc : Int} {t₀ u₀ v₀ : Tok} {n : Nat} {m₀ : Str → Option Value} {news : List (Addr × Obj)} (Led : σ → List (Addr × Obj)) (cst : List (Addr × Obj)) (ps : σ → List (Str × Value)) (Facts : List (Addr × Obj) → σ → Prop) (stored : List Str) (P : List Int → σ → Prop) (adr : List Addr) (c₀ : σ)
    (hh : A.handled = none) (hr : IsRange s.heap r a₀ b₀ cc t₀ u₀ v₀) (hsmall : Builtin.Range.small a₀ b₀ cc = true) (hsz : Builtin.Range.rangeSize a₀ b₀ cc = (n : Int)) (F : Fr h₀ env.locals s.heap m₀) (N : News h₀ env.locals s.heap news) (hn : ∀ p ∈ Led c₀ ++ (cst ++ []), p ∈ news) (hadr : ∀ c, (Led c ++ cst).map (·.1) = adr) (hf : Facts (cst ++ []) c₀) (hk : ∀ p ∈ ps c₀, m₀ p.1 = some p.2) (hp : P [] c₀)
    (turn : ∀ (sx : Shared) (Q₁ : Flow → Shared → Prop) (c : σ) tl (pre : List Int) (k : Int) t (u : Str → Option Value) h tk own, k = a₀ + (pre.length : Int) * cc → pre.length < n → (∀ p ∈ own, p.2.cls = .type "range_iterator") → KdSep own tl adr → OwnOff (tl ++ own) adr → Facts (cst ++ tl) c → P pre c →
      Fr h₀ env.locals h (fun y => if y = x then some (.int k t) else kstB (fun z => if stored.contains z then u z else m₀ z) (ps c) y) → News h₀ env.locals h (Led c ++ (cst ++ (tl ++ own))) →
      wpAny (model prog w) A (execs body env) (InvPostG h₀ env.locals (KdS Led cst ps Facts x stored m₀ P adr (pre ++ [k])) own { sx with heap := h, toks := tk } Q₁) E { sx with heap := h, toks := tk })
    (done : ∀ (c : σ) tl (u : Str → Option Value) h tk, OwnOff tl adr → Facts (cst ++ tl) c → P (stepKs a₀ cc n) c → Fr h₀ env.locals h (fun y => if y = x then u y else kstB (fun z => if stored.contains z then u z else m₀ z) (ps c) y) → News h₀ env.locals h (Led c ++ (cst ++ tl)) → Q .next { s with heap := h, toks := tk }) :
    wpAny (model prog w) A (pyIter (.ref r)) (fun it s₂ => LoopAtV prog w A h₀ env x body Q E it s₂) E s := by
  refine wpAny_pyIter_range hr hsmall ?_
  have W : Walks prog w A s.heap.objs.size [s.heap.objs.size] [s.heap.objs.size] n (fun i v => i < n ∧ ∃ t, v = .int (a₀ + i * cc) t)
      (fun i h => IsRangeIter h s.heap.objs.size (a₀ + (i : Nat) * cc) ((n : Int) - (i : Nat)) cc) := (Walks.range hh _ a₀ cc n).bound
  refine ⟨s.heap.objs.size, [s.heap.objs.size], [s.heap.objs.size], n, _, _, m₀, Led c₀ ++ (cst ++ []), fun i m nx => KdS Led cst ps Facts x stored m₀ P adr ((stepKs a₀ cc n).take i) m nx, rfl, W, ?_, ?_, ?_, (by show IsRangeIter _ _ _ _ _; rw [hsz]; simpa using Heap.get?_push_size _ rfl), F.push _, (fun p hp => ⟨Heap.get?_push_of_some _ (N p (hn p hp)).1, (N p (hn p hp)).2⟩), ⟨c₀, [], rfl, fun _ hp => (nomatch hp), hf, hk, fun _ _ _ _ => rfl, by simpa using hp⟩, ?_, ?_⟩
  · intro hm
    exact absurd F.ns.lt ((List.mem_singleton.mp hm) ▸ Nat.lt_irrefl _)
  · intro b hb
    rw [List.mem_singleton.mp hb]
    exact next_is_new F
  · intro p hp hI
    exact absurd (Heap.lt_size (N p (hn p hp)).1) ((List.mem_singleton.mp hI) ▸ Nat.lt_irrefl _)
  · rintro i v m₁ nx s₁ own ⟨hh', tk', rfl⟩ hin ⟨_, t, rfl⟩ ⟨c, tl, rfl, ht, hf', h1, h2, hp'⟩ hoff hown hget hmem hst' F₁ N₁
    have hsep : OwnOff own ((Led c ++ (cst ++ tl)).map (·.1)) := by
      intro p hp b hb e
      obtain ⟨q, hq, rfl⟩ := List.mem_map.mp hb
      exact hoff q hq (e ▸ hown p hp)
    have hcls : ∀ p ∈ own, p.2.cls = .type "range_iterator" := by
      intro p hp
      have e1 := List.mem_singleton.mp (hown p hp)
      have e2 := hget p hp
      rw [e1] at e2
      have e3 : hh'.get? s.heap.objs.size = some _ := hst'
      rw [e3] at e2
      rw [← Option.some.inj e2]
    have hk' : (stepKs a₀ cc n)[i]? = some (a₀ + (i : Int) * cc) := by simp [stepKs, hin]
    have hs : (stepKs a₀ cc n).take (i + 1) = (stepKs a₀ cc n).take i ++ [a₀ + (i : Int) * cc] := by simp [List.take_add_one, hk']
    have hlen : ((stepKs a₀ cc n).take i).length = i := by rw [List.length_take, stepKs_length]; omega
    obtain ⟨o1, o2⟩ := kd_split (hadr c) hsep
    have N₂ : News h₀ env.locals hh' (Led c ++ (cst ++ (tl ++ own))) := fun p hp => N₁ p (by
      simp only [List.mem_append] at hp ⊢
      rcases hp with hp | hp | hp | hp <;> simp [hp])
    refine wpAny_mono (turn s Q c tl _ _ t m₁ hh' tk' own (by rw [hlen]) (by rw [hlen]; exact hin) hcls ⟨o1, o2, ht⟩ (kd_off o1 ht) hf' hp' (kst_fr h1 h2 F₁) N₂) (fun f s₂ p => ?_) fun _ _ e => e
    rw [← hs] at p
    have fin : InvEndG h₀ env.locals (KdS Led cst ps Facts x stored m₀ P adr ((stepKs a₀ cc n).take (i + 1))) own { s with heap := hh', toks := tk' } s₂ → LoopStepU h₀ env.locals [s.heap.objs.size] own (fun m nx => KdS Led cst ps Facts x stored m₀ P adr ((stepKs a₀ cc n).take (i + 1)) m nx) { s with heap := hh', toks := tk' } .next s₂ := by
      rintro ⟨h', tk, m', news', nx, e, F', N', hn', ho, ha, hm⟩
      refine ⟨rfl, h', tk, m', nx, e, F', fun p hp => N' p ((List.mem_append.mp hp).elim (ho p) (hn' p)), fun p hp hq => ?_, hm⟩
      have e3 : hh'.get? s.heap.objs.size = some _ := hst'
      have hI := hmem s.heap.objs.size (List.mem_singleton.mpr rfl) (next_is_new F) _ e3
      exact ha _ hI p.1 (List.mem_map.mpr ⟨p, hp, rfl⟩) (List.mem_singleton.mp hq).symm
    cases f with
    | ret v => exact .ret p
    | brk => exact .brk p
    | next => exact .next (fin p)
    | cont => exact .cont (fin p)
  · rintro h' tk m' news' F' N' _ ⟨c, tl, rfl, ht, hf', h1, h2, hp'⟩
    have hl : (stepKs a₀ cc n).take n = stepKs a₀ cc n := List.take_of_length_le (Nat.le_of_eq (stepKs_length _ _ _))
    rw [hl] at hp'
    exact done c tl m' h' tk ht hf' hp' (kst_frOut h1 h2 F') N'
end
mutual
theorem datIn_seq {L9 L8 : List (Addr × Obj)} (hs : ∀ p ∈ L9, (p.2.cls = .type "tuple" ∨ p.2.cls = .type "list") → p ∈ L8) : ∀ {v : Value} {d : Dat}, DatIn L9 v d → DatIn L8 v d
  | _, _, .none => .none
  | _, _, .bool b => .bool b
  | _, _, .int i t => .int i t
  | _, _, .str x t => .str x t
  | _, _, .bytes b t => .bytes b t
  | _, _, .tuple h r => .tuple (hs _ h (.inl rfl)) (datAll_seq hs r)
  | _, _, .list h r => .list (hs _ h (.inr rfl)) (datAll_seq hs r)
theorem datAll_seq {L9 L8 : List (Addr × Obj)} (hs : ∀ p ∈ L9, (p.2.cls = .type "tuple" ∨ p.2.cls = .type "list") → p ∈ L8) : ∀ {vs : List Value} {ds : List Dat}, DatAll L9 vs ds → DatAll L8 vs ds
  | _, _, .nil => .nil
  | _, _, .cons h r => .cons (datIn_seq hs h) (datAll_seq hs r)
end
section
variable {D : Type} {w : World} {mean : ExcName → Option Value} {mg mb : Str → Option Value} {f : Addr} {c : Con D}
theorem tx_use (C : TX w mean mg mb f c) (d : D) {dp un : Nat} {gd : Option (List Code)} {cn : Str} {cs : Scope} {a : Addr} {ccd : Value} {cl : List (Str × Addr)} {outer : List Env} {A₀ : Around} {base h₀ : Heap} {L : Addr} {m : Str → Option Value} {news : List (Addr × Obj)} {s : Shared} {vs : List Value}
    {Q E : Value → Shared → Prop} (B : Below A₀ base outer h₀) (F : Fr h₀ L s.heap m) (X : (heap w.params).In h₀) (N : News h₀ L s.heap news) (T : Top view (looseW view [Str.ofString "best_table"]) mean mg mb h₀) (hk : cs.kind = .function)
    (R : c.Rel news vs d) (ok : c.Ok d) (hd : dp + c.size < recursionLimit) (hu : un + 8 * c.size < cLine)
    (ret : ∀ r tl h' tk', Fr h₀ L h' m → News h₀ L h' (news ++ tl) → OwnOff tl (news.map (·.1)) → c.Out (news ++ tl) r d → Q r { s with heap := h', toks := tk' }) :
    wpAny (model PySem.Challenge.rw_nt0548_01.row.prog w) (ktrTop dp un gd cn cs L a ccd cl outer) (call (.ref f) vs) Q E s := C d _ _ _ _ _ _ _ _ _ _ _ _ _ _ _ _ _ _ _ B F X N T hk R ok hd hu ret
end
end
section
set_option maxRecDepth 100000
section
variable {prog : Program} {w : World} {A : Around} {E : Value → Shared → Prop} {s : Shared} {h₀ : Heap} {L d : Addr} {m : Str → Option Value} {news rest : List (Addr × Obj)} {o : Obj} {kvs : List (Int × Value)} {k : Int} {t : Tok}
theorem dict_meth {name : Str} {id : String} {pl : Sem Bool} {Q : Value × List Value → Shared → Prop} (slot : Slot "dict" name id) (hty : typeOf (.builtin id) = pure (.type "method_descriptor")) (N : News h₀ L s.heap news) (hm : (d, o) ∈ news) (hd : o.IsDictOf (intKind prog w) kvs) (h : Q (.builtin id, [.ref d]) s) :
    wpAny (model prog w) A (getMethod (.ref d) name pl) Q E s := by
  have hdo : s.heap.DictOf (intKind prog w) d kvs := Heap.dictOf_iff.mpr ⟨o, (N _ hm).1, hd⟩
  exact getMethod_builtin hdo.typeIs PySem.F.plainAttrs_dict slot hty hdo.mapOf.noDict h
theorem dict_get2 {dflt : Value} {Q : Value → Shared → Prop} (N : News h₀ L s.heap news) (hm : (d, o) ∈ news) (lo : (d == sysModules) = false) (hd : o.IsDictOf (intKind prog w) kvs) (h : Q ((valueAt kvs k).getD dflt) { s with toks := s.toks + 1 }) :
    wpAny (model prog w) A (call (.builtin "dict.get") [.ref d, .int k t, dflt]) Q E s := by
  have hdo : s.heap.DictOf (intKind prog w) d kvs := Heap.dictOf_iff.mpr ⟨o, (N _ hm).1, hd⟩
  exact call_meetsIn PySem.F.slot_dict_get hdo.typeIs PySem.F.entry_dict_get (PySem.F.args_dict_get_3 _ _ _) (meets_dict_get_default _ d (intKind_is prog w k t) lo dflt) ⟨_, hdo.mapOf, h⟩
theorem dict_get1 {Q : Value → Shared → Prop} (N : News h₀ L s.heap news) (hm : (d, o) ∈ news) (lo : (d == sysModules) = false) (hd : o.IsDictOf (intKind prog w) kvs) (h : Q ((valueAt kvs k).getD .none) { s with toks := s.toks + 1 }) :
    wpAny (model prog w) A (call (.builtin "dict.get") [.ref d, .int k t]) Q E s := by
  have hdo : s.heap.DictOf (intKind prog w) d kvs := Heap.dictOf_iff.mpr ⟨o, (N _ hm).1, hd⟩
  exact call_meetsIn PySem.F.slot_dict_get hdo.typeIs PySem.F.entry_dict_get (PySem.F.args_dict_get_2 _ _) (meets_dict_get _ d (intKind_is prog w k t) lo) ⟨_, hdo.mapOf, h⟩
theorem dict_set {v : Value} {own : List (Addr × Obj)} {Q : Unit → Shared → Prop} (F : Fr h₀ L s.heap m) (N : News h₀ L s.heap (own ++ (d, o) :: rest)) (h1 : ∀ p ∈ own, p.1 ≠ d) (h2 : ∀ p ∈ rest, p.1 ≠ d) (hd : o.IsDictOf (intKind prog w) kvs) (hz : kvs.length ≤ sizeLine)
    (h : ∀ h' o', Fr h₀ L h' m → News h₀ L h' (own ++ (d, o') :: rest) → o'.IsDictOf (intKind prog w) (stored kvs k v) → Q () { s with heap := h', toks := s.toks + 1 }) :
    wpAny (model prog w) A (setItem (.ref d) (.int k t) v) Q E s := by
  have hm := N (d, o) (List.mem_append_right _ (.head _))
  have hdo : s.heap.DictOf (intKind prog w) d kvs := Heap.dictOf_iff.mpr ⟨o, hm.1, hd⟩
  refine wpAny_setItem_pairs (hsz := hz) (intKind_is prog w k t) hdo fun h' hmm hs => ?_
  obtain ⟨o', ho', hd'⟩ := Heap.dictOf_iff.mp hmm
  exact h h' o' (F.change hs hm.2.1 hm.2.2) (N.setIn h1 h2 hs ho') hd'
theorem dict_pop {v : Value} {own : List (Addr × Obj)} {Q : Value → Shared → Prop} (F : Fr h₀ L s.heap m) (N : News h₀ L s.heap (own ++ (d, o) :: rest)) (h1 : ∀ p ∈ own, p.1 ≠ d) (h2 : ∀ p ∈ rest, p.1 ≠ d) (hd : o.IsDictOf (intKind prog w) kvs) (hz : kvs.length ≤ sizeLine) (hv : valueAt kvs k = some v)
    (h : ∀ h' o', Fr h₀ L h' m → News h₀ L h' (own ++ (d, o') :: rest) → o'.IsDictOf (intKind prog w) (without kvs k) → Q v { s with heap := h', toks := s.toks + 1 }) :
    wpAny (model prog w) A (call (.builtin "dict.pop") [.ref d, .int k t]) Q E s := by
  have hm := N (d, o) (List.mem_append_right _ (.head _))
  have hD : s.heap.DictOf (intKind prog w) d kvs := Heap.dictOf_iff.mpr ⟨o, hm.1, hd⟩
  refine call_meetsIn PySem.F.slot_dict_pop hD.typeIs PySem.F.entry_dict_pop (PySem.F.args_dict_pop_2 _ _) (meets_dict_pop_there _ d (intKind_is prog w k t) [] (.inl rfl) rfl) ⟨kvs, v, hD, hz, hv, fun h' hmm hs => ?_⟩
  obtain ⟨o', ho', hd'⟩ := Heap.dictOf_iff.mp hmm
  exact h h' o' (F.change hs hm.2.1 hm.2.2) (N.setIn h1 h2 hs ho') hd'
end

/-- one more of k -/
noncomputable def bump (es : List (Int × Int)) (k : Int) : List (Int × Int) := if es.any (fun e => e.1 = k) then es.map (fun e => if e.1 = k then (e.1, e.2 + 1) else e) else es ++ [(k, 1)]
noncomputable def numAt (es : List (Int × Int)) (k : Int) : Int := ((es.find? fun e => e.1 = k).map (·.2)).getD 0
theorem IntPairs.any {kvs : List (Int × Value)} {es : List (Int × Int)} (h : IntPairs kvs es) (k : Int) : kvs.any (fun kv => kv.1 = k) = es.any (fun e => e.1 = k) := by
  have e1 : kvs.any (fun kv => kv.1 = k) = (kvs.map (·.1)).any (fun x => x = k) := by rw [List.any_map]; rfl
  have e2 : es.any (fun kv => kv.1 = k) = (es.map (·.1)).any (fun x => x = k) := by rw [List.any_map]; rfl
  rw [e1, e2, h.1]
theorem IntPairs.cons_inv {kvs : List (Int × Value)} {k n : Int} {es : List (Int × Int)} (h : IntPairs kvs ((k, n) :: es)) : ∃ t kvs', kvs = (k, .int n t) :: kvs' ∧ IntPairs kvs' es := by
  obtain ⟨h1, h2⟩ := h
  cases kvs with
  | nil => simp at h1
  | cons kv kvs =>
    obtain ⟨k', v⟩ := kv
    simp only [List.map_cons, List.cons.injEq] at h1 h2
    cases h2 with
    | cons n t r =>
      obtain ⟨rfl, h1⟩ := h1
      exact ⟨t, kvs, rfl, h1, r⟩
theorem IntPairs.nil_inv {kvs : List (Int × Value)} (h : IntPairs kvs []) : kvs = [] := by
  have := h.length
  exact List.eq_nil_of_length_eq_zero (by simpa using this)
theorem IntPairs.nil : IntPairs [] [] := ⟨rfl, .nil⟩
theorem IntPairs.cons {kvs : List (Int × Value)} {es : List (Int × Int)} (h : IntPairs kvs es) (k n : Int) (t : Tok) : IntPairs ((k, .int n t) :: kvs) ((k, n) :: es) := ⟨by simp [h.1], .cons n t h.2⟩
theorem IntPairs.numAt : ∀ {kvs : List (Int × Value)} {es : List (Int × Int)}, IntPairs kvs es → ∀ (k : Int) (t : Tok), ∃ t', (valueAt kvs k).getD (.int 0 t) = .int (numAt es k) t'
  | kvs, [], h, k, t => by rw [h.nil_inv]; exact ⟨t, rfl⟩
  | kvs, (k', n) :: es, h, k, t => by
    obtain ⟨t1, kvs', rfl, h'⟩ := h.cons_inv
    by_cases e : k' = k
    · exact ⟨t1, by simp [valueAt, Mine.numAt, e]⟩
    · obtain ⟨t', ht'⟩ := h'.numAt k t
      refine ⟨t', ?_⟩
      have e1 : valueAt ((k', Value.int n t1) :: kvs') k = valueAt kvs' k := by simp [valueAt, e]
      have e2 : Mine.numAt ((k', n) :: es) k = Mine.numAt es k := by simp [Mine.numAt, e]
      rw [e1, e2, ht']
theorem IntPairs.map_store : ∀ {kvs : List (Int × Value)} {es : List (Int × Int)}, IntPairs kvs es → (es.map (·.1)).Nodup → ∀ (k n : Int) (t : Tok), n = Mine.numAt es k + 1 →
    IntPairs (kvs.map fun kv => if kv.1 = k then (kv.1, Value.int n t) else kv) (es.map fun e => if e.1 = k then (e.1, e.2 + 1) else e)
  | kvs, [], h, _, k, n, t, _ => by rw [h.nil_inv]; exact .nil
  | kvs, (k', n') :: es, h, hn, k, n, t, e => by
    obtain ⟨t1, kvs', rfl, h'⟩ := h.cons_inv
    simp only [List.map_cons, List.nodup_cons] at hn
    by_cases q : k' = k
    · have e2 : Mine.numAt ((k', n') :: es) k = n' := by simp [Mine.numAt, q]
      rw [e2] at e
      subst e
      simp only [List.map_cons, q, if_true]
      have r1 : (es.map fun e => if e.1 = k then (e.1, e.2 + 1) else e) = es := by
        refine (List.map_congr_left fun x hx => ?_).trans (List.map_id _)
        have : x.1 ≠ k := fun hk => hn.1 (by rw [q, ← hk]; exact List.mem_map.mpr ⟨x, hx, rfl⟩)
        simp [this]
      have r2 : (kvs'.map fun kv => if kv.1 = k then (kv.1, Value.int (n' + 1) t) else kv) = kvs' := by
        refine (List.map_congr_left fun x hx => ?_).trans (List.map_id _)
        have hm : x.1 ∈ es.map (·.1) := by rw [← h'.1]; exact List.mem_map.mpr ⟨x, hx, rfl⟩
        have : x.1 ≠ k := fun hk => hn.1 (by rw [q, ← hk]; exact hm)
        simp [this]
      rw [r1, r2]
      exact h'.cons _ _ _
    · have e2 : Mine.numAt ((k', n') :: es) k = Mine.numAt es k := by simp [Mine.numAt, q]
      rw [e2] at e
      simp only [List.map_cons, q, if_false]
      exact (h'.map_store hn.2 k n t e).cons _ _ _
theorem IntPairs.snoc {kvs : List (Int × Value)} {es : List (Int × Int)} (h : IntPairs kvs es) (k n : Int) (t : Tok) : IntPairs (kvs ++ [(k, .int n t)]) (es ++ [(k, n)]) := by
  induction es generalizing kvs with
  | nil => rw [h.nil_inv]; exact IntPairs.nil.cons _ _ _
  | cons e es ih =>
    obtain ⟨k', n'⟩ := e
    obtain ⟨t1, kvs', rfl, h'⟩ := h.cons_inv
    exact (ih h').cons _ _ _
theorem IntPairs.bump {kvs : List (Int × Value)} {es : List (Int × Int)} (h : IntPairs kvs es) (hn : (es.map (·.1)).Nodup) (k : Int) (t : Tok) : IntPairs (stored kvs k (.int (Mine.numAt es k + 1) t)) (Mine.bump es k) := by
  unfold stored Mine.bump
  rw [h.any k]
  cases q : es.any (fun e => e.1 = k) with
  | true =>
    simp only [if_true]
    exact h.map_store hn k _ t rfl
  | false =>
    simp only [Bool.false_eq_true, if_false]
    have : Mine.numAt es k = 0 := by
      unfold Mine.numAt
      have : es.find? (fun e => e.1 = k) = none := by
        rw [List.find?_eq_none]
        intro x hx
        have := List.any_eq_false.mp q x hx
        simpa using this
      rw [this]; rfl
    rw [this]
    exact h.snoc k 1 t
theorem IntPairs.without {kvs : List (Int × Value)} {es : List (Int × Int)} (h : IntPairs kvs es) (k : Int) : IntPairs (PySem.without kvs k) (es.filter fun e => decide (e.1 ≠ k)) := by
  induction es generalizing kvs with
  | nil => rw [h.nil_inv]; exact IntPairs.nil
  | cons e es ih =>
    obtain ⟨k', n'⟩ := e
    obtain ⟨t1, kvs', rfl, h'⟩ := h.cons_inv
    have r := ih h'
    by_cases q : k' = k
    · have e1 : PySem.without ((k', Value.int n' t1) :: kvs') k = PySem.without kvs' k := by simp [PySem.without, q]
      rw [e1, List.filter_cons_of_neg (by simp [q])]
      exact r
    · have e1 : PySem.without ((k', Value.int n' t1) :: kvs') k = (k', Value.int n' t1) :: PySem.without kvs' k := by simp [PySem.without, q]
      rw [e1, List.filter_cons_of_pos (by simp [q])]
      exact r.cons _ _ _
theorem stored_is {w : World} {kvs : List (Int × Value)} {es : List (Int × Int)} {o : Obj} (h : IntPairs kvs es) (hd : o.IsDictOf (intKind PySem.Challenge.rw_nt0548_01.row.prog w) kvs) : (es.map (·.1)).Nodup := h.nodup hd
end
-- macros of the walk
local macro_rules | `(tactic| k_mem) => `(tactic| first | assumption | ((repeat (first | exact List.Mem.head _ | refine List.mem_cons_of_mem _ ?_)); done) | ((repeat (first | assumption | refine List.mem_cons_of_mem _ ?_)); done) | ((repeat (first | exact List.mem_append_left _ (by assumption) | refine List.mem_cons_of_mem _ ?_)); done) | ((repeat (first | exact List.mem_append_right _ (by assumption) | refine List.mem_cons_of_mem _ ?_)); done) | exact List.mem_append_right _ List.mem_cons_self | (with_reducible ((repeat (refine List.mem_cons_of_mem _ ?_)); (refine List.mem_append_right _ ?_); (repeat (first | assumption | exact List.Mem.head _ | refine List.mem_cons_of_mem _ ?_)); first | done | (refine List.mem_append_left _ ?_; assumption) | (refine List.mem_append_right _ ?_; assumption))))
local macro_rules | `(tactic| k_memK) => `(tactic| k_mem)
local macro_rules | `(tactic| k_all) => `(tactic| assumption)
local macro_rules | `(tactic| walk_at "subscriptTail") => `(tactic| ((have q := (by assumption : KS "item_at")); clear q; k_here; (with_reducible show wpAny _ _ (subscriptTail _ _ (Value.ref _) (Value.int _ _)) _ _ _); (refine' item_at ?k1 ?k2 ?k3 ?k4 ?k5 ?_ ?k7; (case k1 => k_asm); (case k2 => first | with_reducible assumption | exact rfl); (case k3 => k_memK); (case k4 => omega); (case k5 => omega); (case k7 => with_unfolding_all rfl); k_whole; (try (have q := (by assumption : KS "dsimp"); clear q; dsimp only)))))
local macro_rules | `(tactic| walk_at "subscriptTail") => `(tactic| ((have q := (by assumption : KS "dict_at")); clear q; k_here; (with_reducible show wpAny _ _ (subscriptTail _ _ (Value.ref _) (Value.int _ _)) _ _ _); (refine' dict_at ?k1 ?k2 ?k3 ?k4 ?_ ?k5; (case k1 => k_asm); (case k4 => with_reducible assumption); (case k3 => with_reducible assumption); (case k2 => k_memK); (case k5 => with_unfolding_all rfl); k_whole; (try (have q := (by assumption : KS "dsimp"); clear q; dsimp only)))))
local macro_rules | `(tactic| walk_at "binaryOp Add ref ref") => `(tactic| ((have q := (by assumption : KS "add_known")); clear q; k_here; (with_reducible show wpAny _ _ (binaryOp _ (Value.ref _) (Value.ref _)) _ _ _); (refine' add_known ?F ?N ?a ?b ?z ?_; (case F => k_asm); (case N => k_asm); (case a => k_memK); (case b => k_memK); (case z => assumption)); intro D' h' F' N' l1; (try k_lt l1); (try k_sweep); (try dsimp only)))
local macro_rules | `(tactic| walk_at "call builtin:len") => `(tactic| ((have q := (by assumption : KS "len_at")); clear q; k_here; (with_reducible show wpAny _ _ (call (Value.builtin "len") [Value.ref _]) _ _ _); (refine' len_at ?k1 ?k2 ?k3 ?k4 ?_; (case k1 => k_asm); (case k2 => k_memK); (case k3 => with_reducible assumption); (case k4 => omega)); (try dsimp only)))
local macro_rules | `(tactic| ktr_enter) => `(tactic| ((have q := (by assumption : KS "enterD")); clear q; refine' code_def ?k1 ?k2 ?k3 ?k4 ?k5 ?kA ?kF ?kK ?k6 ?k7 ?k8 ?k9 ?kB ?_ ?c2 ?c3 ?c4 ?c5; (case kA => exact rfl); (case kF => exact rfl); (case kK => assumption); (case k1 => k_asm); (case k2 => k_asm); (case k3 => k_asm); (case k4 => k_asm); (case k5 => k_asm); (case k6 => k_is); (case k7 => k_is); (case k8 => ktr_room); (case k9 => exact binds_K (by k_in) rfl (by k_is) rfl rfl rfl); (case c5 => decide); (case kB => exact locs rfl); (case c2 => exact rfl); (case c3 => exact rfl); (case c4 => exact rfl); k_whole; intro g' L' h' FG' F' N' B' X' T'; (try dsimp only); (try k_fold)))
local macro_rules | `(tactic| ktr_enter) => `(tactic| ((have q := (by assumption : KS "enterC")); clear q; refine' code_defC ?k1 ?k2 ?k3 ?k4 ?k5 ?kA ?kF ?kK ?k6 ?k7 ?k8 ?k9 ?kB ?kD ?_ ?c2 ?c3 ?c4; (case kA => exact rfl); (case kF => exact rfl); (case kK => assumption); (case k1 => k_asm); (case k2 => k_asm); (case k3 => k_asm); (case k4 => k_asm); (case k5 => k_asm); (case k6 => k_is); (case k7 => k_is); (case k8 => ktr_room); (case k9 => exact BindsTo.of_eq rfl); (case kB => exact rfl); (case kD => decide +kernel); (case c2 => exact rfl); (case c3 => exact rfl); (case c4 => exact rfl); k_whole; intro g' L' h' tk' cells' FG' F' N' Y' B' X' T' l1; (try k_lt l1); k_cells Y'; (try simp only [List.cons_append, List.nil_append] at N'); (try dsimp only); (try k_lift B'); (try k_fold)))
local macro_rules | `(tactic| walk_at "ite") => `(tactic| (k_closed; first | ((with_reducible refine' ite_pos ?hc ?_); (case hc => (k_dflt decide))) | ((with_reducible refine' ite_neg ?hc ?_); (case hc => (k_dflt decide)))))
local macro_rules | `(tactic| walk_at $k) => `(tactic| ((have q := (by assumption : KS $k)); clear q; refine stop_in ?_))
-- end of the macros
section
set_option maxRecDepth 100000
set_option maxHeartbeats 8000000

noncomputable abbrev cPacked : Con (List Coin) where
  Rel := fun news vs d => ∃ v, vs = [v] ∧ DatIn news v (.list (coinsD d))
  Ok := fun d => d.length < 1000 ∧ ∀ c ∈ d, c.2.length ≤ 2 ^ 20
  size := 4
  Out := fun news r d => DatIn news r (.list (coinsD (packC d)))
theorem packed_tells (w : World) (mean mg mb) : TX w mean mg mb 72 cPacked := by
  unfold TX; k_fill
  intro d dp un gd cn cs a ccd cl outer A₀ base h₀ L m news s vs Q E B F X N T hk hR hok hd hu hret
  dsimp only [cPacked] at hR hok hd hu hret
  obtain ⟨hok, hoz⟩ := hok
  obtain ⟨v, rfl, hR⟩ := hR
  cases hR
  rename_i l us n hl hD
  have ks0 : KS "pyIter ref" := ⟨⟩; have ks1 : KS "InvEndG" := ⟨⟩; have ks2 : KS "item_at" := ⟨⟩; have ks3 : KS "add_known" := ⟨⟩
  have kM := kdMark
  have kM2 := kstMark
  have hlE : (coinsD d).length = d.length := by simp [coinsD]
  refine wpAny_call ?_
  k_dflt ktr_enter
  refine tok_in (g := s.gens) (d := s.drawn) (o := s.os) fun tk00 => ?_
  k_steps
  rename_i l' h'1 l1 h'2 F0 N0 h'3 tk1 t1 u1 v1 hR1 F1 N1 keep1
  simp [List.lookup_cons] at F1
  unfold Stop
  with_unfolding_all refine' for_step (n := d.length / 2) (σ := List Value × List Coin × Nat) (fun c => [(l', listOf c.1.toArray c.2.2)]) news (fun _ => []) (fun L9 c => DatAll L9 c.1 (coinsD c.2.1)) [Str.ofString "one", Str.ofString "other"] (fun pre c => c.2.1 = packC (d.take (2 * pre.length))) (l' :: news.map (·.1)) ([], [], 0) rfl (by assumption) ?small ?size (by assumption) (by assumption) ?sub (fun _ => rfl) DatAll.nil (fun _ h => nomatch h) rfl ?turn ?done
  case small => exact small_step (by decide) (by decide) (by omega) (by omega)
  case size => rw [hlE]; exact rangeSize_two _
  case sub => intro p hp; simpa using hp
  case turn =>
    rintro sx Q1 ⟨cv, cc, cn⟩ tl pre k t u h tk own hk' hlt hS hO hf hp F2 N2
    dsimp only at hf hp F2 N2
    simp only [List.nil_append, List.cons_append, kstB] at F2 N2
    have hk2 : k.toNat = 2 * pre.length := by omega
    have hk3 : (k + 1).toNat = 2 * pre.length + 1 := by omega
    obtain ⟨a1, x1, b1, vs1, m1, m1', e1, ha1, hb1, hv1⟩ := coin_at hD (j := k.toNat) (by omega)
    obtain ⟨a2, x2, b2, vs2, m2, m2', e2, ha2, hb2, hv2⟩ := coin_at hD (j := (k + 1).toNat) (by omega)
    have hz : vs1.length + vs2.length ≤ sizeLine := by
      have h1 := hv1.length
      have h2 := hv2.length
      rw [List.length_map] at h1 h2
      have h3 := hoz _ (List.getElem_mem (show k.toNat < d.length by omega))
      have h4 := hoz _ (List.getElem_mem (show (k + 1).toNat < d.length by omega))
      rw [sizeLine_eq]
      omega
    have hcz : cv.toArray.size ≤ sizeLine := by
      have h1 := hf.length
      rw [coinsD_length, hp, packC_length, List.length_take] at h1
      rw [List.size_toArray, sizeLine_eq]
      omega
    k_steps
    rename_i D1 hA lt1 hB FA NA hC hD2 tkm D2 hE lt2 D3 hF lt3 hG FB NB
    unfold Stop
    rw [List.push_toArray] at NB
    refine end_one (cv ++ [Value.ref D3], cc ++ [((d[k.toNat]'(by omega)).1 + (d[(k + 1).toNat]'(by omega)).1, (d[k.toNat]'(by omega)).2 ++ (d[(k + 1).toNat]'(by omega)).2)], cn + 1) [(D3, _), (D2, _), (D1, _)] hS (fun _ => ⟨_, rfl⟩) rfl FB NB ?_ (fun _ h => nomatch h) ?_ ?_ ?_
    · simp only [List.forall_mem_cons, List.not_mem_nil, false_implies, implies_true, and_true]
      exact ⟨lt3.2.2, lt2.2, lt1⟩
    · kst_same
    · show DatAll _ _ (coinsD (cc ++ [_]))
      rw [← coinsD_snoc]
      refine DatAll.append (hf.mono ?_) (DatAll.one (coin_mk (n := 0) (n' := 0) (b := D2) (t := tkm + 1 + 1) (vs := vs1 ++ vs2) (by first | k_mem | simp) (by first | k_mem | simp) ?_))
      · intro p hp
        simp only [List.mem_append] at hp ⊢
        rcases hp with hp | hp <;> first | (subst hp; k_mem) | k_mem | simp [hp]
      · rw [List.map_append]
        exact DatAll.append (hv1.mono fun p hp => List.mem_append_left _ hp) (hv2.mono fun p hp => List.mem_append_left _ hp)
    · dsimp only
      rw [hp, List.length_append, List.length_singleton, ← packC_step d pre.length (by omega)]
      simp only [hk2, hk3]
  case done =>
    rintro ⟨cv, cc, cn⟩ tl u h tk hO hf hp F2 N2
    dsimp only at hf hp F2 N2
    simp only [List.nil_append, List.cons_append, kstB] at F2 N2
    k_steps
    refine hret _ _ _ _ (by k_asm) (ktn_tl2 (by k_asm)) (own_list hO l1) ?_
    refine .list ktn_new ?_
    have e : cc = packC d := by rw [hp, stepKs_length]; exact packC_all d
    rw [← e]
    exact hf.mono ktn_subB
end
section
set_option maxRecDepth 100000
set_option maxHeartbeats 8000000

noncomputable abbrev cMerged : Con (List Coin × List Coin) where
  Rel := fun news vs d => ∃ v v', vs = [v, v'] ∧ DatIn news v (.list (coinsD d.1)) ∧ DatIn news v' (.list (coinsD d.2))
  Ok := fun d => d.1.length < 1000 ∧ d.2.length < 1000
  size := 4
  Out := fun news r d => DatIn news r (.list (coinsD (mergeC d.1 d.2)))
inductive CondP (s : Shared) (h : Heap) (b v : Bool) (s' : Shared) : Prop
  | mk (tk : Nat) (e : v = b) (es : s' = { s with heap := h, toks := tk }) : CondP s h b v s'
theorem cond_in {M : Model} {A : Around} {t : Sem Bool} {Q : Bool → Shared → Prop} {E : Value → Shared → Prop} {h : Heap} {g : Array GenState} {d : Drawn} {k : Nat} {o : OsState} (b : Bool)
    (c1 : wpAny M A t (CondP ⟨h, g, d, k, o⟩ h b) E ⟨h, g, d, k, o⟩) (c2 : ∀ k', Q b ⟨h, g, d, k', o⟩) : wpAny M A t Q E ⟨h, g, d, k, o⟩ :=
  wpAny_mono c1 (fun v s' q => by obtain ⟨tk, rfl, rfl⟩ := q; exact c2 tk) fun _ _ h => h
theorem merged_tells (w : World) (mean mg mb) : TX w mean mg mb 65 cMerged := by
  unfold TX; k_fill
  intro d dp un gd cn cs a ccd cl outer A₀ base h₀ L m news s vs Q E B F X N T hk hR hok hd hu hret
  obtain ⟨xs, ys⟩ := d
  dsimp only [cMerged] at hR hok hd hu hret
  obtain ⟨hox, hoy⟩ := hok
  obtain ⟨v, v', rfl, hR, hR'⟩ := hR
  cases hR
  rename_i l us n hl hD
  cases hR'
  rename_i l2 us2 n2 hl2 hD2
  have ks0 : KS "pyIter ref" := ⟨⟩; have ks1 : KS "exec While BoolOp" := ⟨⟩; have ks2 : KS "KswEnd" := ⟨⟩; have ks3 : KS "InvEndG" := ⟨⟩; have ks4 : KS "item_at" := ⟨⟩; have ks5 : KS "add_known" := ⟨⟩
  have kM := kdMark
  have kM2 := kstMark
  have hlE : (coinsD xs).length = xs.length := by simp [coinsD]
  have hlE2 : (coinsD ys).length = ys.length := by simp [coinsD]
  refine wpAny_call ?_
  k_dflt ktr_enter
  refine tok_in (g := s.gens) (d := s.drawn) (o := s.os) fun tk00 => ?_
  k_steps
  rename_i tk0 l' h1 l1 h2 tk1 D' h3 lt1 h4 h5 h6 F1 N1
  simp [List.lookup_cons, show (Str.ofString "packs" == Str.ofString "coins") = false from by decide] at F1
  unfold Stop
  with_unfolding_all refine' ksw_while (σ := List Value × List Coin × Nat × Int × Tok × Int × Tok) (fun c => (l', listOf c.1.toArray c.2.2.1) :: news) (fun c => [(Str.ofString "at", .int c.2.2.2.1 c.2.2.2.2.1), (Str.ofString "to", .int c.2.2.2.2.2.1 c.2.2.2.2.2.2)]) (fun c => DatAll news c.1 (coinsD c.2.1)) [] (fun c => 0 ≤ c.2.2.2.1 ∧ c.2.2.2.1 ≤ xs.length ∧ 0 ≤ c.2.2.2.2.2.1 ∧ c.2.2.2.2.2.1 ≤ ys.length ∧ (c.2.1.length : Int) = c.2.2.2.1 + c.2.2.2.2.2.1 ∧ mergeC xs ys = c.2.1 ++ mergeC (xs.drop c.2.2.2.1.toNat) (ys.drop c.2.2.2.2.2.1.toNat)) (fun c => (xs.length + ys.length - (c.2.2.2.1 + c.2.2.2.2.2.1)).toNat) ([], [], 0, 0, tk1, 0, tk1 + 1) F1 (fun p hp => N1 p (List.mem_cons_of_mem _ hp)) DatAll.nil ?kk ?kp ?turn
  case kk => kst_all
  case kp => dsimp only; exact ⟨by omega, by omega, by omega, by omega, rfl, by simp⟩
  rintro ⟨fv, fc, fn, i, ti, j, tj⟩ u h tk hf hp F2 N2
  dsimp only at hf hp F2 N2
  simp only [kstB, List.contains_nil, Bool.false_eq_true, if_false] at F2
  obtain ⟨hi0, hi1, hj0, hj1, hfl, hm⟩ := hp
  have hcz : fv.toArray.size ≤ sizeLine := by
    have h1 := hf.length
    rw [coinsD_length] at h1
    rw [List.size_toArray, sizeLine_eq]
    omega
  have ksB : KS "isTrue BoolOp" := ⟨⟩
  k_steps
  unfold Stop
  clear ksB
  refine cond_in (decide (i < xs.length ∨ j < ys.length)) ?c1 fun tk9 => ?c2
  case c1 =>
    by_cases hi : i < xs.length
    · rw [decide_eq_true (Or.inl hi : i < xs.length ∨ j < ys.length)]
      k_steps
      all_goals (try (exfalso; omega))
      all_goals exact ⟨_, rfl, rfl⟩
    · by_cases hj : j < ys.length
      · rw [decide_eq_true (Or.inr hj : i < xs.length ∨ j < ys.length)]
        k_steps
        all_goals (try (exfalso; omega))
        all_goals exact ⟨_, rfl, rfl⟩
      · rw [decide_eq_false (fun h : i < xs.length ∨ j < ys.length => h.elim hi hj)]
        k_steps
        all_goals (try (exfalso; omega))
        all_goals exact ⟨_, rfl, rfl⟩
  case c2 =>
    by_cases hw : i < xs.length ∨ j < ys.length
    · rw [decide_eq_true hw]
      have ksB : KS "isTrue BoolOp" := ⟨⟩
      k_steps
      unfold Stop
      clear ksB
      refine cond_in (decide (j = (ys.length : Int) ∨ (i < xs.length ∧ (xs[i.toNat]!).1 ≤ (ys[j.toNat]!).1))) ?d1 fun tk8 => ?d2
      case d1 =>
        by_cases hj : j < ys.length
        · obtain ⟨a2, x2, b2, vs2, m2, m2', e2, ha2, hb2, hv2⟩ := coin_at hD2 (j := j.toNat) (by omega)
          by_cases hi : i < xs.length
          · obtain ⟨a1, x1, b1, vs1, m1, m1', e1, ha1, hb1, hv1⟩ := coin_at hD (j := i.toNat) (by omega)
            rw [getElem!_pos xs i.toNat (by omega), getElem!_pos ys j.toNat (by omega)]
            by_cases hc : (xs[i.toNat]'(by omega)).1 ≤ (ys[j.toNat]'(by omega)).1
            · rw [decide_eq_true (Or.inr ⟨hi, hc⟩ : j = (ys.length : Int) ∨ _)]
              k_steps
              all_goals (try (exfalso; omega))
              all_goals exact ⟨_, rfl, rfl⟩
            · rw [decide_eq_false (fun h : j = (ys.length : Int) ∨ (i < xs.length ∧ (xs[i.toNat]'(by omega)).1 ≤ (ys[j.toNat]'(by omega)).1) => h.elim (by omega) fun h => hc h.2)]
              k_steps
              all_goals (try (exfalso; omega))
              all_goals exact ⟨_, rfl, rfl⟩
          · rw [decide_eq_false (fun h : j = (ys.length : Int) ∨ (i < xs.length ∧ (xs[i.toNat]!).1 ≤ (ys[j.toNat]!).1) => h.elim (by omega) fun h => hi h.1)]
            k_steps
            all_goals (try (exfalso; omega))
            all_goals exact ⟨_, rfl, rfl⟩
        · rw [decide_eq_true (Or.inl (by omega) : j = (ys.length : Int) ∨ _)]
          k_steps
          all_goals (try (exfalso; omega))
          all_goals exact ⟨_, rfl, rfl⟩
      case d2 =>
        by_cases ht : j = (ys.length : Int) ∨ (i < xs.length ∧ (xs[i.toNat]!).1 ≤ (ys[j.toNat]!).1)
        · rw [decide_eq_true ht]
          have hi : i < xs.length := ht.elim (fun h => hw.resolve_right (by omega)) (·.1)
          obtain ⟨a1, x1, b1, vs1, m1, m1', e1, ha1, hb1, hv1⟩ := coin_at hD (j := i.toNat) (by omega)
          k_steps
          rename_i FB NB
          unfold Stop
          rw [List.push_toArray] at NB
          refine ksw_end (fv ++ [Value.ref a1], fc ++ [xs[i.toNat]'(by omega)], fn + 1, i + 1, _, j, tj) FB NB (fun _ h => h) ?_ (by kst_all) (by ksw_same) ?_ (by dsimp only; omega)
          · show DatAll _ _ (coinsD (fc ++ [_]))
            rw [← coinsD_snoc]
            exact DatAll.append hf (DatAll.one (coin_mk ha1 hb1 hv1))
          · dsimp only
            refine ⟨by omega, by omega, by omega, by omega, by rw [List.length_append, List.length_singleton]; omega, ?_⟩
            rw [hm, mergeC_coin (by omega) (fun h => by have := (ht.resolve_left (by omega)).2; rwa [getElem!_pos xs i.toNat (by omega)] at this), show (i + 1).toNat = i.toNat + 1 by omega]
            rw [List.append_assoc]; rfl
        · rw [decide_eq_false ht]
          have hj : j < ys.length := by omega
          obtain ⟨a2, x2, b2, vs2, m2, m2', e2, ha2, hb2, hv2⟩ := coin_at hD2 (j := j.toNat) (by omega)
          k_steps
          rename_i FB NB
          unfold Stop
          rw [List.push_toArray] at NB
          refine ksw_end (fv ++ [Value.ref a2], fc ++ [ys[j.toNat]'(by omega)], fn + 1, i, ti, j + 1, _) FB NB (fun _ h => h) ?_ (by kst_all) (by ksw_same) ?_ (by dsimp only; omega)
          · show DatAll _ _ (coinsD (fc ++ [_]))
            rw [← coinsD_snoc]
            exact DatAll.append hf (DatAll.one (coin_mk ha2 hb2 hv2))
          · dsimp only
            refine ⟨by omega, by omega, by omega, by omega, by rw [List.length_append, List.length_singleton]; omega, ?_⟩
            rw [hm, mergeC_pack (by omega) (fun h hc => ht (.inr ⟨by omega, by rw [getElem!_pos ys j.toNat (by omega)]; exact hc⟩)), show (j + 1).toNat = j.toNat + 1 by omega]
            rw [List.append_assoc]; rfl
    · rw [decide_eq_false hw]
      k_steps
      refine hret _ [(l', listOf fv.toArray fn)] _ _ (by k_asm) (ktn_tl1 (by k_asm)) ?_ ?_
      · exact own_list (tl := []) (fun p hp => nomatch hp) l1
      · refine .list ktn_new ?_
        have e : fc = mergeC xs ys := by
          rw [hm, List.drop_eq_nil_of_le (by omega), List.drop_eq_nil_of_le (by omega)]
          simp [mergeC]
        rw [← e]
        exact hf.mono ktn_subA
end
section
open PyProof.Rows.LCg PyProof.Rows.LCt PyProof.Rows.LCp
set_option maxRecDepth 100000
set_option maxHeartbeats 8000000

noncomputable def worthRows (es : List (Int × Int)) : List (Int × Int) := (es.filter fun e => decide (0 < e.2)).map fun e => (e.2, -e.1)
theorem worthRows_take {d : List (Int × Int)} {i : Nat} (hi : i < d.length) : worthRows (d.take (i + 1)) = worthRows (d.take i) ++ worthRows [d[i]] := by
  have e : d.take (i + 1) = d.take i ++ [d[i]] := by rw [List.take_add_one, List.getElem?_eq_getElem hi]; rfl
  unfold worthRows
  rw [e, List.filter_append, List.map_append]
theorem worthRows_yes {d : List (Int × Int)} {i : Nat} (hi : i < d.length) (h : 0 < (d[i]).2) : worthRows (d.take (i + 1)) = worthRows (d.take i) ++ [((d[i]).2, -(d[i]).1)] := by
  rw [worthRows_take hi]
  unfold worthRows
  rw [List.filter_cons_of_pos (p := fun e : Int × Int => decide (0 < e.2)) (decide_eq_true h)]; rfl
theorem worthRows_no {d : List (Int × Int)} {i : Nat} (hi : i < d.length) (h : ¬ 0 < (d[i]).2) : worthRows (d.take (i + 1)) = worthRows (d.take i) := by
  rw [worthRows_take hi]
  have : worthRows [d[i]] = [] := by
    unfold worthRows
    rw [List.filter_cons_of_neg (p := fun e : Int × Int => decide (0 < e.2)) (by simp only [decide_eq_true_eq]; exact h)]; rfl
  rw [this, List.append_nil]
theorem worthRows_nodup {d : List (Int × Int)} (h : (d.map (·.1)).Nodup) : (worthRows d).Nodup := by
  unfold worthRows
  have h1 : ((d.filter fun e => decide (0 < e.2)).map (·.1)).Nodup := (List.Sublist.map _ List.filter_sublist).nodup h
  rw [List.nodup_iff_pairwise_ne] at h1 ⊢
  rw [List.pairwise_map] at h1 ⊢
  exact h1.imp fun hab e => hab (by have := (Prod.mk.inj e).2; omega)
noncomputable def coinOf (r : Int × Int) : Coin := (r.1, [-r.2])
noncomputable abbrev cWorth (w : World) : Con (List (Int × Int)) where
  Rel := fun news vs d => ∃ v, vs = [v] ∧ DictI w news v d
  Ok := fun d => d.length < 60
  size := 4
  Out := fun news r d => ∃ rs : List (Int × Int), rs.Perm (worthRows d) ∧ rs.Pairwise (fun a b => lexlt a b = true) ∧ DatIn news r (.list (coinsD (rs.map coinOf)))
inductive WorI (LL : Addr) (oc : Obj) (news : List (Addr × Obj)) (d : List (Int × Int)) (i : Nat) (ys : List Value) (nw : List (Addr × Obj)) : Prop
  | mk (tl : List (Addr × Obj)) (e0 : nw = tl ++ ((LL + 1, oc) :: news)) (e1 : OwnOff tl (((LL + 1, oc) :: news).map (·.1))) (e2 : DatAll tl ys ((worthRows (d.take i)).map rowD)) : WorI LL oc news d i ys nw
inductive WorJ (base : List (Addr × Obj)) (rs : List (Int × Int)) (i : Nat) (zs : List Value) (nw : List (Addr × Obj)) : Prop
  | mk (tl2 : List (Addr × Obj)) (e0 : nw = tl2 ++ (base)) (e1 : OwnOff tl2 ((base).map (·.1))) (e2 : DatAll tl2 zs (coinsD ((rs.take i).map coinOf))) : WorJ base rs i zs nw
theorem worth_tells (w : World) (mean mg mb) : TX w mean mg mb 77 (cWorth w) := by
  unfold TX; k_fill
  intro d dp un gd cn cs a ccd cl outer A₀ base h₀ L m news s vs Q E B F X N T hk hR hok hd hu hret
  dsimp only [cWorth] at hR hok hd hu hret
  obtain ⟨v, rfl, l, o, kvs, rfl, hl, hlo, hD, hI⟩ := hR
  have ks0 : KS "eval ListComp" := ⟨⟩; have ks1 : KS "SrcD" := ⟨⟩; have ks2 : KS "SrcLP" := ⟨⟩; have ks3 : KS "CompEnd" := ⟨⟩; have ks4 : KS "call builtin:sorted" := ⟨⟩; have ks5 : KS "dict_at" := ⟨⟩
  have ks9 : KS "enterC" := ⟨⟩
  have kM := kdMark
  have kM2 := kstMark
  refine wpAny_call ?_
  k_dflt ktr_enter
  k_steps
  rename_i gH LL hh1 tk1 FG F1 BB XX TT l1 oc dc N1
  unfold Stop
  k_dflt (refine comp_dictT (F₀ := by k_asm) (by with_unfolding_all rfl) (by decide) (by rfl) (by decide) (by rfl) ?_)
  k_steps
  unfold Stop
  have hkl : kvs.length ≤ sizeLine := by
    have := hI.length
    rw [sizeLine_eq]; omega
  refine ⟨l, o, kvs, _, rfl, rfl, F1, N1, List.mem_cons_of_mem _ hl, hlo, hD, hkl, ?_⟩
  rintro s₂ ⟨h2, rfl⟩
  refine restT (WorI LL oc news d) ?turn ?fin ?init
  case turn =>
    rintro i ys nw hi ⟨tl, rfl, hO, hA⟩ sy v I oI C oC D m₂ h tk E' hv hC hx F2 N2 hoff hne
    obtain ⟨k, x, t, hk, rfl⟩ := hv.int
    have hi' : i < d.length := by rw [← hI.length]; exact hi
    obtain ⟨t2, ht2⟩ := hI.get hi'
    obtain ⟨t3, ht3⟩ := hI.val hD hi'
    rw [ht2] at hk
    obtain ⟨hk1, hk2⟩ := Prod.mk.inj (Option.some.inj hk)
    rw [hk1] at ht3
    have hD2 : (l, o) ∈ tl ++ (LL + 1, oc) :: news := List.mem_append_right _ (List.mem_cons_of_mem _ hl)
    have hoc : (LL + 1, oc) ∈ tl ++ (LL + 1, oc) :: news := List.mem_append_right _ List.mem_cons_self
    k_steps
    · rename_i h0 D1 hhA FA NA lt1
      unfold Stop
      have hlt : ∀ q ∈ [(D1, ({ cls := .type "tuple", data := .seq #[.int (d[i]).2 t3, .int (-k) (tk + 1 + 1 + 1)] } : Obj))], I < q.1 ∧ C < q.1 ∧ D < q.1 ∧ AllLt q.1 (tl ++ (LL + 1, oc) :: news) := by
        simp only [List.forall_mem_cons, List.not_mem_nil, false_implies, implies_true, and_true]
        exact lt1
      refine compEnd_add [(D1, _)] (by assumption) NA hlt hoff (List.mem_cons_of_mem _ hD2) ⟨_ :: tl, rfl, own_add hO (fun _ hp => List.mem_append_right _ hp) _ hlt, ?_⟩
      rw [worthRows_yes hi' (by omega), List.map_append]
      refine DatAll.append (hA.mono fun p hp => List.mem_cons_of_mem _ hp) (DatAll.one (.tuple (vs := [_, _]) (n := 0) List.mem_cons_self (.cons (.int _ _) (.cons ?_ .nil))))
      rw [hk1]
      exact .int _ _
    · rename_i h0
      unfold Stop
      dsimp only
      refine CompEnd.intro (by assumption) N2 _ (fun _ hp => hp) hoff hD2 ⟨tl, rfl, hO, ?_⟩
      rw [worthRows_no hi' (by omega)]
      exact hA
  case init => exact ⟨[], rfl, (fun _ h => nomatch h), DatAll.nil⟩
  case fin =>
    rintro ys nw ⟨tl, rfl, hO, hA⟩ D h tk F2 N2 o1
    rw [hI.length, List.take_length] at hA
    dsimp only
    k_steps
    unfold Stop
    have hwl : (worthRows d).length ≤ d.length := by
      unfold worthRows; rw [List.length_map]; exact List.length_filter_le _ _
    refine sorted_rows (by k_asm) N2 List.mem_cons_self hA (fun p hp => List.mem_cons_of_mem _ (List.mem_append_left _ hp)) (worthRows_nodup (hI.nodup hD)) (by omega) fun D' ys' rs' c h' F3 N3 lt3 hp hpw hA' => ?_
    clear F2
    dsimp only
    have N4 : News gH LL h' ((D', listOf ys'.toArray c) :: (tl ++ (LL + 1, oc) :: news)) := fun p hp => N3 p (by
      rcases List.mem_cons.mp hp with rfl | hp
      · exact List.mem_cons_self
      · exact List.mem_cons_of_mem _ (List.mem_cons_of_mem _ hp))
    have lt4 : ∀ q ∈ (tl ++ (LL + 1, oc) :: news), q.1 < D' := fun q hq => lt3 q (List.mem_cons_of_mem _ hq)
    clear N3 N2 lt3
    k_steps
    rename_i h5 F5 N5
    unfold Stop
    dsimp only
    k_dflt (refine LCp.ListComp_P (F₀ := by k_asm) (by with_unfolding_all rfl) (by decide) (by rfl) (by decide) (by rfl) (by rfl) (by decide) ?_)
    k_steps
    unfold Stop
    have hyl : ys'.length = rs'.length := by simpa using hA'.length
    have hrl : rs'.length ≤ d.length := by rw [hp.length_eq]; exact hwl
    refine SrcLP.ledger rfl (by k_asm) N5 List.mem_cons_self (by rw [List.size_toArray, sizeLine_eq]; omega) ?_
    intro g
    refine restP (WorJ ((D', listOf ys'.toArray c) :: (tl ++ (LL + 1, oc) :: news)) rs') ?turn2 ?fin2 ?init2
    case init2 => exact ⟨[], rfl, (fun _ h => nomatch h), DatAll.nil⟩
    case turn2 =>
      rintro i zs nw hi ⟨tl2, rfl, hO2, hZ⟩ v hv
      have hi' : i < rs'.length := by rw [List.size_toArray, hyl] at hi; exact hi
      obtain ⟨a1, t1, u1, n1, e1, m1⟩ := row_at hA' hi'
      have hv' : ys'[i]? = some v := by simpa using hv
      rw [e1] at hv'
      obtain rfl := Option.some.inj hv'
      refine ⟨a1, _, _, _, _, rfl, List.mem_append_right _ (List.mem_cons_of_mem _ (List.mem_append_left _ m1)), rfl, rfl, ?_⟩
      intro sz I oI C oC D m₂ h tk E' hC hx1 hx2 F2 N2 hoff hne
      dsimp only
      k_steps
      rename_i E1 hhA lt1 E2 hhB FA NA lt2
      unfold Stop
      have hlt : ∀ q ∈ [(E2, ({ cls := .type "tuple", data := .seq #[.int (rs'[i]).1 t1, .ref E1] } : Obj)), (E1, listOf #[.int (-(rs'[i]).2) tk] 0)], I < q.1 ∧ C < q.1 ∧ D < q.1 ∧ AllLt q.1 (tl2 ++ (D', listOf ys'.toArray c) :: (tl ++ (LL + 1, oc) :: news)) := by
        simp only [List.forall_mem_cons, List.not_mem_nil, false_implies, implies_true, and_true]
        exact ⟨lt2.2, lt1⟩
      refine compEnd_add [(E2, _), (E1, _)] (by assumption) NA hlt hoff (.inr ⟨_, List.mem_append_right _ (List.mem_append_right _ List.mem_cons_self), rfl, _, rfl⟩) ⟨_ :: _ :: tl2, rfl, own_add hO2 (fun _ hp => List.mem_append_right _ hp) _ hlt, ?_⟩
      have ez : coinsD ((rs'.take (i + 1)).map coinOf) = coinsD ((rs'.take i).map coinOf) ++ [coinD (coinOf rs'[i])] := by
        rw [List.take_add_one, List.getElem?_eq_getElem hi', List.map_append]
        show coinsD (_ ++ [coinOf rs'[i]]) = _
        rw [← coinsD_snoc]
      rw [ez]
      refine DatAll.append (hZ.mono fun p hp => List.mem_cons_of_mem _ (List.mem_cons_of_mem _ hp)) (DatAll.one (coin_mk (n := 0) (n' := 0) (b := E1) (vs := [_]) (t := t1) List.mem_cons_self (List.mem_cons_of_mem _ List.mem_cons_self) (DatAll.one (.int _ _))))
    case fin2 =>
      rintro zs nw ⟨tl2, rfl, hO2, hZ⟩ D2 h tk F6 N6 o6
      rw [List.size_toArray, hyl, List.take_length] at hZ
      dsimp only
      k_steps
      rename_i kF kN _ _
      refine hret _ ((D2, lst zs) :: (tl2 ++ (D', listOf ys'.toArray c) :: (tl ++ [(LL + 1, oc)]))) _ _ kF (fun p hp => kN p ?_) ?_ ⟨rs', hp, hpw, ?_⟩
      · simp only [List.mem_cons, List.mem_append, List.not_mem_nil, or_false] at hp ⊢
        rcases hp with hp | hp | hp | hp | hp | hp <;> first | (subst hp; k_mem) | k_mem | simp [hp]
      · intro p hp b hb
        have hb' : b ∈ (((D', listOf ys'.toArray c) :: (tl ++ (LL + 1, oc) :: news)).map (·.1)) := by
          obtain ⟨q, hq, rfl⟩ := List.mem_map.mp hb
          exact List.mem_map.mpr ⟨q, List.mem_cons_of_mem _ (List.mem_append_right _ (List.mem_cons_of_mem _ hq)), rfl⟩
        have hb2 : b ∈ (((LL + 1, oc) :: news).map (·.1)) := List.mem_cons_of_mem _ hb
        obtain ⟨q, hq, rfl⟩ := List.mem_map.mp hb
        simp only [List.mem_cons, List.mem_append, List.not_mem_nil, or_false] at hp
        rcases hp with rfl | hp | rfl | hp | rfl
        · exact (off1_mem o6 q (List.mem_append_right _ (List.mem_cons_of_mem _ (List.mem_append_right _ (List.mem_cons_of_mem _ hq))))).symm
        · exact hO2 p hp _ hb'
        · exact Nat.ne_of_gt (lt4 q (List.mem_append_right _ (List.mem_cons_of_mem _ hq)))
        · exact hO p hp _ hb2
        · exact Nat.ne_of_gt (Nat.lt_succ_of_lt (l1 q hq))
      · refine .list (n := zs.length) (vs := zs) (List.mem_append_right _ List.mem_cons_self) (hZ.mono fun p hp => ?_)
        exact List.mem_append_right _ (List.mem_cons_of_mem _ (List.mem_append_left _ hp))
end
section
set_option maxRecDepth 100000
set_option maxHeartbeats 8000000
noncomputable def rowOf (cs : List Coin) : Nat → List Coin
  | 0 => cs
  | k + 1 => mergeC cs (packC (rowOf cs k))
noncomputable def countAll (l : List Int) : List (Int × Int) := l.foldl bump []
noncomputable def chosen (cs : List Coin) (m : Nat) : List Int := ((rowOf ((0, [-1]) :: cs) (m - 1)).take (2 * cs.length)).flatMap (·.2)
noncomputable def sizesOf (cs : List Coin) (m : Nat) : List (Int × Int) := if cs = [] then [] else (countAll (chosen cs m)).filter fun e => decide (e.1 ≠ -1)
theorem rowOf_length (cs : List Coin) : ∀ k, (rowOf cs k).length ≤ 2 * cs.length
  | 0 => by simp [rowOf]; omega
  | k + 1 => by
    have := rowOf_length cs k
    rw [rowOf, mergeC_length, packC_length]; omega
theorem mem_mergeC {c : Coin} : ∀ {xs ys : List Coin}, c ∈ mergeC xs ys → c ∈ xs ∨ c ∈ ys
  | [], ys, h => by rw [mergeC] at h; exact .inr h
  | x :: xs, [], h => by rw [mergeC] at h; exact .inl h
  | x :: xs, y :: ys, h => by
    rw [mergeC] at h
    split at h
    · rcases List.mem_cons.mp h with rfl | h
      · exact .inl List.mem_cons_self
      · exact (mem_mergeC h).imp (List.mem_cons_of_mem _) id
    · rcases List.mem_cons.mp h with rfl | h
      · exact .inr List.mem_cons_self
      · exact (mem_mergeC h).imp id (List.mem_cons_of_mem _)
termination_by xs ys => xs.length + ys.length
theorem packC_labels {B : Nat} : ∀ {xs : List Coin}, (∀ c ∈ xs, c.2.length ≤ B) → ∀ c ∈ packC xs, c.2.length ≤ 2 * B
  | [], _, c, h => by simp [packC] at h
  | [a], _, c, h => by simp [packC] at h
  | a :: b :: r, hB, c, h => by
    rw [packC] at h
    rcases List.mem_cons.mp h with rfl | h
    · have h1 := hB a List.mem_cons_self
      have h2 := hB b (List.mem_cons_of_mem _ List.mem_cons_self)
      rw [List.length_append]; omega
    · exact packC_labels (fun c hc => hB c (List.mem_cons_of_mem _ (List.mem_cons_of_mem _ hc))) c h
theorem rowOf_labels {cs : List Coin} (h : ∀ c ∈ cs, c.2.length ≤ 1) : ∀ k, ∀ c ∈ rowOf cs k, c.2.length ≤ 2 ^ k
  | 0, c, hc => h c hc
  | k + 1, c, hc => by
    rcases mem_mergeC hc with hc | hc
    · have := h c hc
      have : 1 ≤ 2 ^ (k + 1) := Nat.one_le_two_pow
      omega
    · have := packC_labels (rowOf_labels h k) c hc
      rw [Nat.pow_succ]; omega
theorem countAll_snoc (l : List Int) (k : Int) : countAll (l ++ [k]) = bump (countAll l) k := by unfold countAll; rw [List.foldl_append]; rfl
theorem bump_length (es : List (Int × Int)) (k : Int) : (bump es k).length ≤ es.length + 1 := by
  unfold bump; split
  · rw [List.length_map]; omega
  · rw [List.length_append]; simp
theorem countAll_length : ∀ l : List Int, (countAll l).length ≤ l.length := by
  intro l
  have h : ∀ (l : List Int) es, (l.foldl bump es).length ≤ es.length + l.length := by
    intro l
    induction l with
    | nil => intro es; simp
    | cons a l ih =>
      intro es
      have h1 := ih (bump es a)
      have h2 := bump_length es a
      rw [List.foldl_cons, List.length_cons]; omega
  have := h l []
  simpa [countAll] using this
theorem flat_length {B : Nat} : ∀ {l : List Coin}, (∀ c ∈ l, c.2.length ≤ B) → (l.flatMap (·.2)).length ≤ l.length * B
  | [], _ => by simp
  | c :: l, h => by
    have h1 := h c List.mem_cons_self
    have h2 := flat_length (l := l) fun x hx => h x (List.mem_cons_of_mem _ hx)
    rw [List.flatMap_cons, List.length_append, List.length_cons, Nat.add_mul, Nat.one_mul]; omega
theorem m_three {a b c d : Str} {v : Option Value} {mR : Str → Option Value} (h1 : ¬ a = d) (h2 : ¬ b = d) (h3 : ¬ c = d) : (fun y => if y = d then v else mR y) = fun y => if y = a then mR y else if y = b then mR y else if y = c then mR y else if y = d then v else mR y := by
  funext y
  by_cases e1 : y = a
  · rw [if_pos e1, if_neg (e1 ▸ h1)]
  · rw [if_neg e1]
    by_cases e2 : y = b
    · rw [if_pos e2, if_neg (e2 ▸ h2)]
    · rw [if_neg e2]
      by_cases e3 : y = c
      · rw [if_pos e3, if_neg (e3 ▸ h3)]
      · rw [if_neg e3]
theorem m_shape {a b c d : Str} {v : Option Value} {mR m : Str → Option Value} (h : ∀ y, ¬ y = a → ¬ y = b → ¬ y = c → m y = if y = d then v else mR y) : ∃ u : Str → Option Value, m = fun y => if y = a then u y else if y = b then u y else if y = c then u y else if y = d then v else mR y := by
  refine ⟨m, funext fun y => ?_⟩
  by_cases e1 : y = a
  · rw [if_pos e1]
  · rw [if_neg e1]
    by_cases e2 : y = b
    · rw [if_pos e2]
    · rw [if_neg e2]
      by_cases e3 : y = c
      · rw [if_pos e3]
      · rw [if_neg e3]; exact h y e1 e2 e3
theorem ints_get {L9 : List (Addr × Obj)} {vs : List Value} {ss : List Int} (h : DatAll L9 vs (ss.map .int)) {j : Nat} {v : Value} (hv : vs[j]? = some v) : ∃ (hj : j < ss.length) (t : Tok), v = .int ss[j] t := by
  have hl : vs.length = ss.length := by simpa using h.length
  have hj : j < ss.length := by rw [← hl]; exact (List.getElem?_eq_some_iff.mp hv).1
  obtain ⟨v', hv', hD⟩ := h.get (k := j) (by simpa using hj)
  rw [hv] at hv'
  obtain rfl := Option.some.inj hv'
  have e : (ss.map Dat.int)[j]'(by simpa using hj) = .int ss[j] := by simp
  rw [e] at hD
  cases hD
  exact ⟨hj, _, rfl⟩
theorem packC_pos : ∀ {xs : List Coin}, (∀ c ∈ xs, 0 ≤ c.1) → ∀ c ∈ packC xs, 0 ≤ c.1
  | [], _, c, h => by simp [packC] at h
  | [a], _, c, h => by simp [packC] at h
  | a :: b :: r, hB, c, h => by
    rw [packC] at h
    rcases List.mem_cons.mp h with rfl | h
    · have h1 := hB a List.mem_cons_self
      have h2 := hB b (List.mem_cons_of_mem _ List.mem_cons_self)
      show 0 ≤ a.1 + b.1
      omega
    · exact packC_pos (fun c hc => hB c (List.mem_cons_of_mem _ (List.mem_cons_of_mem _ hc))) c h
theorem rowOf_pos {cs : List Coin} (h : ∀ c ∈ cs, 0 ≤ c.1) : ∀ k, ∀ c ∈ rowOf cs k, 0 ≤ c.1
  | 0, c, hc => h c hc
  | k + 1, c, hc => (mem_mergeC hc).elim (h c) (packC_pos (rowOf_pos h k) c)
theorem rowOf_head {x : List Int} {cs : List Coin} (h : ∀ c ∈ cs, 0 ≤ c.1) : ∀ k, ∃ r, rowOf ((0, x) :: cs) k = (0, x) :: r
  | 0 => ⟨cs, rfl⟩
  | k + 1 => by
    have hp := packC_pos (rowOf_pos (cs := (0, x) :: cs) (fun c hc => (List.mem_cons.mp hc).elim (fun e => by rw [e]; exact Int.le_refl 0) (h c)) k)
    rw [rowOf]
    cases hq : packC (rowOf ((0, x) :: cs) k) with
    | nil => exact ⟨cs, by simp [mergeC]⟩
    | cons p ps => exact ⟨_, by rw [mergeC, if_pos (hp p (by rw [hq]; exact List.mem_cons_self))]⟩
theorem mem_bump_self (es : List (Int × Int)) (k : Int) : k ∈ (bump es k).map (·.1) := by
  unfold bump; split
  · rename_i h
    obtain ⟨e, he, hk⟩ := List.any_eq_true.mp h
    have hk' : e.1 = k := by simpa using hk
    exact List.mem_map.mpr ⟨(e.1, e.2 + 1), List.mem_map.mpr ⟨e, he, by rw [if_pos hk']⟩, hk'⟩
  · simp
theorem mem_bump {es : List (Int × Int)} {k x : Int} (h : x ∈ es.map (·.1)) : x ∈ (bump es k).map (·.1) := by
  obtain ⟨e, he, rfl⟩ := List.mem_map.mp h
  unfold bump; split
  · exact List.mem_map.mpr ⟨_, List.mem_map.mpr ⟨e, he, rfl⟩, by split <;> rfl⟩
  · exact List.mem_map.mpr ⟨e, List.mem_append_left _ he, rfl⟩
theorem mem_countAll {l : List Int} {x : Int} (h : x ∈ l) : x ∈ (countAll l).map (·.1) := by
  have keep : ∀ (l : List Int) (es : List (Int × Int)), x ∈ es.map (·.1) → x ∈ (l.foldl bump es).map (·.1) := by
    intro l
    induction l with
    | nil => intro es he; exact he
    | cons a l ih => intro es he; exact ih _ (mem_bump he)
  have all : ∀ (l : List Int) (es : List (Int × Int)), x ∈ l → x ∈ (l.foldl bump es).map (·.1) := by
    intro l
    induction l with
    | nil => intro es he; exact nomatch he
    | cons a l ih =>
      intro es he
      rcases List.mem_cons.mp he with rfl | he
      · exact keep l _ (mem_bump_self es _)
      · exact ih _ he
  exact all l [] h
theorem valueAt_some {kvs : List (Int × Value)} {k : Int} (h : k ∈ kvs.map (·.1)) : ∃ v, valueAt kvs k = some v := by
  obtain ⟨e, he, hk⟩ := List.mem_map.mp h
  have : (kvs.find? fun kv => decide (kv.1 = k)).isSome := List.find?_isSome.mpr ⟨e, he, decide_eq_true hk⟩
  obtain ⟨y, hy⟩ := Option.isSome_iff_exists.mp this
  exact ⟨y.2, by unfold valueAt; rw [hy]; rfl⟩
theorem coins_ok (cs : List Coin) : ∀ d ∈ coinsD cs, kqdOk 8 d = true := by
  intro d hd
  obtain ⟨c, _, rfl⟩ := List.mem_map.mp hd
  simp [coinD, kqdOk]
section
variable {prog : Program} {w : World} {A : Around} {E : Value → Shared → Prop} {s : Shared} {h₀ : Heap} {L a b : Addr} {news : List (Addr × Obj)} {xs : List Value} {ka kb : Nat} {ds : List Dat} {Q : Value → Shared → Prop}
theorem eq_nilL (N : News h₀ L s.heap news) (ma : (a, listOf xs.toArray ka) ∈ news) {n₁ : List (Addr × Obj)} (Da : DatAll n₁ xs ds) (sa : ∀ p ∈ n₁, p ∈ news) (mb : (b, listOf #[] kb) ∈ news) (ha : ∀ d ∈ ds, kqdOk 8 d = true) (hu : A.units + 64 < cLine)
    (h : Q (.bool ds.isEmpty) s) : wpAny (model prog w) A (compareOp .Eq (.ref a) (.ref b)) Q E s := by
  refine kqd_eq N ma rfl rfl Da sa mb rfl (ys := []) rfl DatAll.nil (n₂ := []) (fun _ h => nomatch h) ha (fun _ h => nomatch h) hu ?_
  cases ds with
  | nil => rw [decide_eq_true rfl]; exact h
  | cons d ds => rw [decide_eq_false (by simp)]; exact h
end
section
variable {prog : Program} {w : World} {A : Around} {E : Value → Shared → Prop} {s : Shared} {h₀ : Heap} {L l : Addr} {m : Str → Option Value} {news : List (Addr × Obj)} {value slice : PySem.Expr}
theorem slice_at {us : List Value} {n : Nat} {kk : Int} {t : Tok} {Q : Value → Shared → Prop} (F : Fr h₀ L s.heap m) (N : News h₀ L s.heap news) (hm : (l, listOf us.toArray n) ∈ news) (hz : us.length ≤ sizeLine) (h0 : 0 ≤ kk)
    (h : ∀ D h', Fr h₀ L h' m → News h₀ L h' ((D, listOf (us.take kk.toNat).toArray 0) :: news) → (∀ p ∈ news, p.1 < D) → Q (.ref D) { s with heap := h' })
    (hs : subscripted slice false (.ref l) (.ref s.heap.objs.size) = operate [.ref s.heap.objs.size, .ref l] (getItem (.ref l) (.ref s.heap.objs.size))) (ht : ∀ r, letTemporaryGo value (.ref l) r = pure ()) :
    wpAny (model prog w) A (subscriptTail value slice (.ref l) (.ref s.heap.objs.size)) Q E { s with heap := s.heap.push { cls := .type "slice", data := .fields #[.none, .int kk t, .none] } } :=
  kmk_slice_lit F N ⟨_, (N _ hm).1, rfl, n, rfl⟩ .none (.int kk t) (by
    obtain ⟨b, rfl⟩ : ∃ b : Nat, kk = b := ⟨kk.toNat, (Int.toNat_of_nonneg h0).symm⟩
    rw [slicePick_upto']
    simp) h hs ht (by simpa using hz)
end

local macro_rules | `(tactic| walk_at "subscriptTail Name Slice ref ref") => `(tactic| (k_here; (with_reducible show wpAny _ _ (subscriptTail _ (PySem.Expr.Slice _ _ none _) (Value.ref _) (Value.ref _)) _ _ _); k_dflt (refine' slice_at ?F ?N ?l ?z ?p ?_ ?s ?t; (case F => k_asm); (case N => k_asm); (case l => k_memK); (case p => omega); (case s => with_unfolding_all rfl); (case t => kmk_pure); (case z => assumption)); intro D' h' F' N' l1; (try k_lt l1); (try k_sweep)))
noncomputable abbrev cSizes (w : World) : Con (List (Int × Int) × Nat) where
  Rel := fun news vs d => ∃ v t, vs = [v, .int d.2 t] ∧ DictI w news v d.1
  Ok := fun d => d.1.length < 60 ∧ 1 ≤ d.2 ∧ d.2 ≤ 16 ∧ (worthRows d.1).length + 1 ≤ 2 ^ d.2
  size := 20
  Out := fun news r d => ∃ rs : List (Int × Int), rs.Perm (worthRows d.1) ∧ rs.Pairwise (fun a b => lexlt a b = true) ∧ DictI w news r (sizesOf (rs.map coinOf) d.2)
inductive SizesI (w : World) (dS : Addr) (R : List (Addr × Obj)) (rw9 : List Coin) (mR : Str → Option Value) (i : Nat) (m : Str → Option Value) (nx : List (Addr × Obj)) : Prop
  | mk (o : Obj) (kvs : List (Int × Value)) (e0 : nx = (dS, o) :: R) (e1 : o.IsDictOf (intKind PySem.Challenge.rw_nt0548_01.row.prog w) kvs) (e2 : IntPairs kvs (countAll ((rw9.take i).flatMap (·.2)))) (e3 : ∃ u : Str → Option Value, m = fun y => if y = Str.ofString "worth" then u y else if y = Str.ofString "symbols" then u y else if y = Str.ofString "symbol" then u y else if y = Str.ofString "sizes" then some (.ref dS) else mR y) : SizesI w dS R rw9 mR i m nx
inductive SizesJ (w : World) (dS : Addr) (R : List (Addr × Obj)) (mR : Str → Option Value) (I1 : Addr) (it1 : Obj) (ls cI : List Int) (j : Nat) (m : Str → Option Value) (nx : List (Addr × Obj)) : Prop
  | mk (o : Obj) (kvs : List (Int × Value)) (e0 : nx = (I1, it1) :: (dS, o) :: R) (e1 : o.IsDictOf (intKind PySem.Challenge.rw_nt0548_01.row.prog w) kvs) (e2 : IntPairs kvs (countAll (ls ++ cI.take j))) (e3 : ∃ u : Str → Option Value, m = fun y => if y = Str.ofString "worth" then u y else if y = Str.ofString "symbols" then u y else if y = Str.ofString "symbol" then u y else if y = Str.ofString "sizes" then some (.ref dS) else mR y) : SizesJ w dS R mR I1 it1 ls cI j m nx
theorem sizes_tells (w : World) (mean mg mb) : TX w mean mg mb 84 (cSizes w) := by
  unfold TX; k_fill
  intro d dp un gd cn cs a ccd cl outer A₀ base h₀ L m news s vs Q E B F X N T hk hR hok hd hu hret
  obtain ⟨es, M⟩ := d
  dsimp only [cSizes] at hR hok hd hu hret
  obtain ⟨v, t, rfl, hR⟩ := hR
  have ks0 : KS "pyIter ref" := ⟨⟩; have ks1 : KS "InvEndG" := ⟨⟩; have ks2 : KS "call ref" := ⟨⟩; have ks3 : KS "binaryOp Add ref ref" := ⟨⟩; have ks4 : KS "binaryOp Pow int int" := ⟨⟩; have ks5 : KS "exec For" := ⟨⟩; have ks6 : KS "UnrEndW" := ⟨⟩; have ks7 : KS "call builtin:dict.get" := ⟨⟩; have ks8 : KS "call builtin:dict.pop" := ⟨⟩; have ks9 : KS "compareOp Eq ref ref" := ⟨⟩; have ks10 : KS "len_at" := ⟨⟩
  have kM := kdMark
  have kM2 := kstMark
  have hcL := cLine_is
  refine wpAny_call ?_
  k_dflt ktr_enter
  refine tok_in (g := s.gens) (d := s.drawn) (o := s.os) fun tk00 => ?_
  k_steps
  rename_i g' L' h' FG F1 N1 B1 X1 T1
  unfold Stop
  refine tx_use (worth_tells w mean mg mb) es B1 F1 X1 N1 T1 rfl ⟨_, rfl, hR⟩ hok.1 (by show dp + 1 + 4 < recursionLimit; omega) (by show un + 3 + 8 * 4 < cLine; omega) ?_
  rintro r tl h2 tk2 F2 N2 hO2 ⟨rs, hp, hpw, hr⟩
  cases hr
  rename_i lc us nc hlc hDc
  simp [List.lookup_cons, show (Str.ofString "most" == Str.ofString "frequencies") = false from by decide] at F2
  clear F1 N1
  k_steps
  rename_i l1 h4 F4 N4 lt4
  unfold Stop
  refine eq_nilL N4 (List.mem_cons_of_mem _ hlc) hDc (fun p hp => List.mem_cons_of_mem _ hp) List.mem_cons_self (coins_ok _) (by show un + 3 + 64 < cLine; omega) ?_
  by_cases hrs : rs = []
  · subst hrs
    rw [show (coinsD (([] : List (Int × Int)).map coinOf)).isEmpty = true from rfl]
    k_steps
    rename_i ad h5 o5 F5 N5 lo5 _ _ hi5 _ lt5 kF5 kN5 _ _
    refine hret _ ((ad, o5) :: (l1, listOf #[] 0) :: tl) _ _ kF5 (nsub kN5 ?_) ?_ ⟨[], hp, hpw, ad, o5, [], rfl, ?_, lo5, hi5, IntPairs.nil⟩
    · exact alla (fun p hp => by k_mem) (allc (by k_mem) (allc (by k_mem) fun p hp => by k_mem))
    · exact allc (fun b hb => (addr_in hb).elim fun o ho => Nat.ne_of_gt (tb_ltOf lt5.2 (b, o) (List.mem_append_left _ ho))) (allc (fun b hb => (addr_in hb).elim fun o ho => Nat.ne_of_gt (lt4 (b, o) (List.mem_append_left _ ho))) hO2)
    · exact List.mem_append_right _ List.mem_cons_self
  · have hne : (coinsD (rs.map coinOf)).isEmpty = false := by cases rs <;> simp_all [coinsD]
    rw [hne]
    have hul : us.length = rs.length := by have := hDc.length; simpa [coinsD] using this
    have hrl : rs.length ≤ es.length := by rw [hp.length_eq]; unfold worthRows; rw [List.length_map]; exact List.length_filter_le _ _
    k_steps
    rename_i l2 h5 lt5 D3 h6 lt6 l4 h7 F7 N7 lt7
    unfold Stop
    refine add_known F7 N7 (vs := [Value.ref D3]) List.mem_cons_self (List.mem_cons_of_mem _ (List.mem_cons_of_mem _ (List.mem_cons_of_mem _ (List.mem_cons_of_mem _ hlc)))) (by rw [List.length_singleton, sizeLine_eq]; omega) ?_
    intro lr h8 F8 N8 lt8
    clear F7 N7
    k_lt lt8
    have hrow : ([Value.ref D3] ++ us).length = rs.length + 1 := by rw [List.length_append, List.length_singleton]; omega
    dsimp only
    k_steps
    unfold Stop
    dsimp only
    refine pow_int (by omega) (by rw [show (Builtin.Int.intBits 2 : Int) = 2 from by decide]; omega) ?_
    obtain ⟨PM, hPM, hPM2⟩ : ∃ PM : Int, (2 : Int) ^ ((M : Int).toNat) = PM ∧ ((rs.length + 1 : Nat) : Int) ≤ PM := by
      refine ⟨_, rfl, ?_⟩
      have h1 := hok.2.2.2
      rw [← hp.length_eq] at h1
      have h2 : ((2 ^ M : Nat) : Int) = (2 : Int) ^ ((M : Int).toNat) := by simp
      rw [← h2]
      exact Int.ofNat_le.mpr h1
    rw [hPM]
    clear hPM
    dsimp only
    k_steps
    rename_i hq1 tkA tkB hq2 F9 N9 hq3 tkC q1 q2 q3 hRg FA NA keepA
    unfold Stop
    have hcs : ∀ c ∈ ((0, [-1]) :: rs.map coinOf : List Coin), c.2.length ≤ 1 := by
      intro c hc
      rcases List.mem_cons.mp hc with rfl | hc
      · simp
      · obtain ⟨x, _, rfl⟩ := List.mem_map.mp hc
        simp [coinOf]
    obtain ⟨cs', hcs', hcl⟩ : ∃ cs' : List Coin, cs' = (0, [-1]) :: rs.map coinOf ∧ cs'.length = rs.length + 1 := ⟨_, rfl, by simp⟩
    rw [← hcs'] at hcs
    obtain ⟨rowv, hrv⟩ : ∃ rowv : List Value, rowv = [Value.ref D3] ++ us := ⟨_, rfl⟩
    rw [← hrv] at NA hrow
    obtain ⟨pre, NC, hOC, hlr, hDrow⟩ : ∃ pre, News g' L' hq3 (pre ++ news) ∧ OwnOff pre (news.map (·.1)) ∧ (lr, listOf rowv.toArray 0) ∈ pre ++ news ∧ DatAll (pre ++ news) rowv (coinsD cs') := by
      refine ⟨(lr, listOf rowv.toArray 0) :: (l4, listOf #[Value.ref D3] 0) :: (D3, { cls := .type "tuple", data := .seq #[Value.int 0 hq1, Value.ref l2] }) :: (l2, listOf #[Value.int (-1) 255] 0) :: (l1, listOf #[] 0) :: tl, nsub NA ?_, ?_, List.mem_append_left _ List.mem_cons_self, ?_⟩
      · refine alla ?_ fun p hp => by k_mem
        exact allc (by k_mem) (allc (by k_mem) (allc (by k_mem) (allc (by k_mem) (allc (by k_mem) fun p hp => by k_mem))))
      · have hl : ∀ {D : Addr}, AllLt D (news ++ tl) → ∀ b ∈ news.map (·.1), D ≠ b := fun h b hb => (addr_in hb).elim fun o ho => Nat.ne_of_gt (tb_ltOf h (b, o) (List.mem_append_left _ ho))
        exact allc (hl lt8.2.2.2.2) (allc (hl lt7.2.2.2) (allc (hl lt6.2.2) (allc (hl lt5.2) (allc (hl (allLt_of lt4)) hO2))))
      · rw [hrv, hcs']
        refine DatAll.cons (coin_mk (n := 0) (n' := 0) (b := l2) (t := hq1) (vs := [Value.int (-1) 255]) (by first | k_mem | simp) (by first | k_mem | simp) (DatAll.one (.int _ _))) (hDc.mono fun p hp => ?_)
        exact (alla (fun p hp => List.mem_append_right _ hp) fun p hp => List.mem_append_left _ (by k_mem) : ∀ p ∈ news ++ tl, _) p hp
    clear NA N9 F9
    with_unfolding_all refine' for_stepC (n := M - 1) (σ := Value × List Coin) (fun _ => []) (pre ++ news) (fun c => [(Str.ofString "row", c.1)]) (fun L9 c => DatIn L9 c.1 (.list (coinsD c.2))) [] (fun p c => c.2 = rowOf cs' p.length) ((pre ++ news).map (·.1)) (Value.ref lr, cs') rfl (by assumption) ?small ?size (by assumption) NC ?sub (fun _ => rfl) ?f0 ?k0 rfl ?turn ?done
    case small => exact small_step (by decide) (by decide) (by omega) (by omega)
    case size => rw [rangeSize_one]; split <;> omega
    case sub => intro p hp; simpa using hp
    case f0 => rw [List.append_nil]; exact .list hlr hDrow
    case k0 => kst_all
    case turn =>
      rintro sx Q1 ⟨rv, rc⟩ tl2 p9 k t9 u h9 tk9 own hk9 hlt9 hcls hS hO hf9 hp9 FB NB
      dsimp only at hf9 hp9 FB NB
      simp only [List.nil_append, kstB, List.contains_nil, Bool.false_eq_true, if_false] at FB NB
      subst hp9
      have hbd : ∀ c ∈ rowOf cs' p9.length, c.2.length ≤ 2 ^ 20 := fun c hc => Nat.le_trans (rowOf_labels hcs p9.length c hc) (Nat.pow_le_pow_right (by decide) (by omega))
      have hrl9 := rowOf_length cs' p9.length
      k_steps
      unfold Stop
      refine tx_use (packed_tells w mean mg mb) (rowOf cs' p9.length) B1 FB X1 NB T1 rfl ⟨rv, rfl, hf9.mono fun p hp => ?_⟩ ⟨by omega, hbd⟩ (by show dp + 1 + 4 < recursionLimit; omega) (by show un + 3 + 8 * 4 < cLine; omega) ?_
      · exact (alla (alla (fun p hp => by k_mem) fun p hp => by k_mem) fun p hp => by k_mem : ∀ p ∈ pre ++ news ++ tl2, _) p hp
      rintro r1 tlp hA1 tkA1 FA1 NA1 hOA1 hD1
      dsimp only
      k_steps
      unfold Stop
      refine tx_use (merged_tells w mean mg mb) (cs', packC (rowOf cs' p9.length)) B1 FA1 X1 NA1 T1 rfl ⟨.ref lr, r1, rfl, .list (List.mem_append_left _ (List.mem_append_left _ hlr)) (hDrow.mono fun p hp => List.mem_append_left _ (List.mem_append_left _ hp)), hD1⟩ ⟨by show cs'.length < 1000; omega, by show (packC (rowOf cs' p9.length)).length < 1000; rw [packC_length]; omega⟩ (by show dp + 1 + 4 < recursionLimit; omega) (by show un + 3 + 8 * 4 < cLine; omega) ?_
      rintro r2 tlm hA2 tkA2 FA2 NA2 hOA2 hD2
      clear FA1 NA1 FB NB
      dsimp only
      k_steps
      rename_i hE FE NE
      unfold Stop
      refine kd_end (tl := tl2) (r2, rowOf cs' (p9.length + 1)) (tlp ++ tlm) hS FE NE ?_ ?_ rfl ?_ ?_ (by kst_all) (by kst_same) ?_ (by dsimp only; rw [List.length_append, List.length_singleton])
      · exact (alla (fun p hp => List.mem_append_left _ (List.mem_append_left _ (List.mem_append_left _ hp))) (alla (alla (fun p hp => List.mem_append_left _ (List.mem_append_right _ hp)) fun p hp => List.mem_append_right _ hp) fun p hp => List.mem_append_left _ (List.mem_append_left _ (List.mem_append_right _ (List.mem_append_left _ hp)))) : ∀ p ∈ (pre ++ news) ++ ((tlp ++ tlm) ++ tl2), _)
      · exact fun p hp => List.mem_append_left _ (List.mem_append_left _ (List.mem_append_right _ (List.mem_append_right _ hp)))
      · exact alla (fun q hq b hb => (hOA1 q hq b (by rw [List.map_append]; exact List.mem_append_left _ hb)).symm) fun q hq b hb => (hOA2 q hq b (by rw [List.map_append, List.map_append]; exact List.mem_append_left _ (List.mem_append_left _ hb))).symm
      · intro q hq p hp
        have hm : p.1 ∈ ((pre ++ news ++ (tl2 ++ own)).map (·.1)) := List.mem_map.mpr ⟨p, List.mem_append_right _ (List.mem_append_right _ hp), rfl⟩
        rcases List.mem_append.mp hq with hq | hq
        · exact (hOA1 q hq _ hm).symm
        · refine (hOA2 q hq p.1 ?_).symm
          rw [List.map_append]
          exact List.mem_append_left _ hm
      · refine datIn_seq (fun p hp hc => ?_) hD2
        simp only [List.mem_append] at hp ⊢
        rcases hp with ((((hp | hp) | hp | hp) | hp) | hp)
        · exact .inl (.inl hp)
        · exact .inl (.inr hp)
        · exact .inr (.inr hp)
        · rw [hcls p hp] at hc
          rcases hc with hc | hc <;> exact absurd hc (by decide)
        · exact .inr (.inl (.inl hp))
        · exact .inr (.inl (.inr hp))
    case done =>
      rintro ⟨rv, rc⟩ tl2 u h9 tk9 hO hf9 hp9 FB NB
      dsimp only at hf9 hp9 FB NB
      simp only [List.nil_append, kstB, List.contains_nil, Bool.false_eq_true, if_false] at FB NB
      rw [stepKs_length] at hp9
      subst hp9
      cases hf9
      rename_i l9 us9 n9 hl9 hD9
      have hul9 : us9.length = (rowOf cs' (M - 1)).length := by have := hD9.length; simpa [coinsD] using this
      have hrl9 := rowOf_length cs' (M - 1)
      have hz9 : us9.length ≤ sizeLine := by rw [sizeLine_eq]; omega
      k_steps
      rename_i dS _ oS _ _ lS loS _ _ hiS _ hS FS NS
      rename_i F_ N_ _ _ _
      clear F_ N_
      unfold Stop
      refine For_turns FS ?_
      k_steps
      rename_i l10 h10 F10 N10 lt10
      unfold Stop
      dsimp only at F10 N10 ⊢
      obtain ⟨mR, FM⟩ : ∃ mR : Str → Option Value, Fr g' L' h10 (fun y => if y = Str.ofString "sizes" then some (.ref dS) else mR y) := ⟨_, F10⟩
      rw [m_three (a := Str.ofString "worth") (b := Str.ofString "symbols") (c := Str.ofString "symbol") (by decide) (by decide) (by decide)] at FM
      clear F10
      obtain ⟨K, hK, hKe⟩ : ∃ K : Nat, K = 2 * rs.length ∧ (2 * ((rs.length + 1 : Nat) : Int) - 2).toNat = K := ⟨_, rfl, by omega⟩
      rw [hKe] at N10
      obtain ⟨R, hR1⟩ : ∃ R, R = (l10, listOf (us9.take K).toArray 0) :: (pre ++ news ++ tl2) := ⟨_, rfl⟩
      have hl10 : (l10, listOf (us9.take K).toArray 0) ∈ R := by rw [hR1]; exact List.mem_cons_self
      have hG : ∀ p ∈ pre ++ news ++ tl2, p ∈ R := fun p hp => by rw [hR1]; exact List.mem_cons_of_mem _ hp
      have hSR : ∀ p ∈ R, p.1 ≠ dS := hR1 ▸ allc (Nat.ne_of_gt lt10.1) fun p hp => Nat.ne_of_lt (lS p hp)
      have NR : News g' L' h10 ((dS, oS) :: R) := nsub N10 (hR1 ▸ allc (by k_mem) (allc (by k_mem) fun p hp => by k_mem))
      clear N10
      obtain ⟨rw9, hrw9, hrl10⟩ : ∃ rw9, rowOf cs' (M - 1) = rw9 ∧ rw9.length ≤ 122 := ⟨_, rfl, by omega⟩
      have hbd : ∀ c ∈ rw9, c.2.length ≤ 2 ^ 15 := fun c hc => Nat.le_trans (rowOf_labels hcs (M - 1) c (hrw9 ▸ hc)) (Nat.pow_le_pow_right (by decide) (by omega))
      rw [hrw9] at hD9 hul9
      refine for_list (SizesI w dS R rw9 mR)
        rfl FM NR (List.mem_cons_of_mem _ hl10) ?keep ⟨oS, [], rfl, hiS, by rw [List.take_zero]; exact IntPairs.nil, mR, rfl⟩ ?turn2 ?done2
      case keep =>
        rintro i m nx ⟨o, kvs, rfl, -⟩
        exact List.mem_cons_of_mem _ hl10
      case turn2 =>
        rintro sy Q2 i vv m nx I1 it1 h11 tk11 hi ⟨o, kvs, rfl, ho, hkv, u1, rfl⟩ hI1 hc1 F11 N11
        rw [List.getElem?_take] at hi
        split at hi
        · rename_i hiK
          have hi9 : i < rw9.length := by
            have := (List.getElem?_eq_some_iff.mp hi).1
            omega
          obtain ⟨a1, t1, b1, vs1, n1, n1', e1, ha1, hb1, hv1⟩ := coin_at hD9 hi9
          rw [e1] at hi
          obtain rfl := Option.some.inj hi
          have ha2 := hG _ ha1
          have hb2 := hG _ hb1
          k_steps
          rename_i _ F_ N_ _ h12 F12 N12
          clear F_ N_
          unfold Stop
          refine For_turns F12 ?_
          k_steps
          unfold Stop
          refine for_list (vs := vs1) (n := n1') (SizesJ w dS R mR I1 it1 ((rw9.take i).flatMap (·.2)) (rw9[i]).2)
            rfl F12 N12 (List.mem_cons_of_mem _ (List.mem_cons_of_mem _ hb2)) ?keep3 ?init3 ?turn3 ?done3
          case keep3 =>
            rintro j m nx ⟨o, kvs, rfl, -⟩
            exact List.mem_cons_of_mem _ (List.mem_cons_of_mem _ hb2)
          case init3 =>
            exact ⟨o, kvs, rfl, ho, by rw [List.take_zero, List.append_nil]; exact hkv, m_shape fun y h1 h2 h3 => by simp only [if_neg h1, if_neg h2, if_neg h3]⟩
          case turn3 =>
            clear F12 N12
            rintro sz Q3 j vv m nx I2 it2 h13 tk13 hj ⟨o, kvs, rfl, ho, hkv, u2, rfl⟩ hI2 hc2 F13 N13
            obtain ⟨hj9, t3, rfl⟩ := ints_get hv1 hj
            k_steps
            rename_i _ F14 N14
            unfold Stop
            refine dict_get2 N14 (List.mem_cons_of_mem _ (List.mem_cons_of_mem _ List.mem_cons_self)) loS ho ?_
            obtain ⟨t', ht'⟩ := hkv.numAt (rw9[i].2[j]) _
            rw [ht']
            dsimp only
            k_steps
            have hcnt : countAll ((rw9.take i).flatMap (·.2) ++ (rw9[i]).2.take (j + 1)) = bump (countAll ((rw9.take i).flatMap (·.2) ++ (rw9[i]).2.take j)) (rw9[i]).2[j] := by
              rw [← countAll_snoc, List.append_assoc]
              congr 2
              rw [List.take_add_one, List.getElem?_eq_getElem hj9]; rfl
            have hkl : kvs.length ≤ sizeLine := by
              have h1 := hkv.length
              have h2 := countAll_length ((rw9.take i).flatMap (·.2) ++ (rw9[i]).2.take j)
              have h3 := flat_length (B := 2 ^ 15) (l := rw9.take i) fun c hc => hbd c (List.mem_of_mem_take hc)
              have h4 := hbd rw9[i] (List.getElem_mem hi9)
              rw [List.length_append, List.length_take] at h2
              rw [List.length_take] at h3
              have h5 : min i rw9.length * 2 ^ 15 ≤ 122 * 2 ^ 15 := Nat.mul_le_mul_right _ (by omega)
              rw [sizeLine_eq]
              omega
            refine dict_set (own := [(I2, it2), (I1, it1)]) F14 N14 ?_ hSR ho hkl ?_
            · exact allc (hI2 _ (List.mem_cons_of_mem _ List.mem_cons_self)).symm (allc (hI1 _ List.mem_cons_self).symm alln)
            intro h15 o15 F15 N15 ho15
            have hkv15 := hkv.bump (hkv.nodup ho) (rw9[i]).2[j]
            k_steps
            unfold Stop
            refine ⟨_, _, _, (I1, it1) :: (dS, o15) :: R, rfl, F15, N15, ?_, o15, _, rfl, ho15, by rw [hcnt]; exact hkv15 _, m_shape fun y h1 h2 h3 => by simp only [if_neg h1, if_neg h2, if_neg h3]⟩
            refine fun p hp q hq => (List.mem_singleton.mp hq) ▸ ?_
            revert p
            exact allc (hI2 _ List.mem_cons_self) (allc (show @Ne Nat dS I2 from hI2 (dS, o) (List.mem_cons_of_mem _ List.mem_cons_self)) fun p hp => hI2 _ (List.mem_cons_of_mem _ (List.mem_cons_of_mem _ hp)))
          case done3 =>
            clear F12 N12
            rintro m nx h16 tk16 ⟨o2, kvs2, rfl, ho2, hkv2, u2, rfl⟩ F16 N16
            have hvl : vs1.length = (rw9[i]).2.length := by simpa using hv1.length
            rw [hvl, List.take_length] at hkv2
            k_steps
            unfold Stop
            refine ⟨_, _, _, (dS, o2) :: R, rfl, F16, N16, ?_, o2, _, rfl, ho2, ?_, m_shape fun y h1 h2 h3 => by simp only [if_neg h1, if_neg h2, if_neg h3]⟩
            · refine fun p hp q hq => (List.mem_singleton.mp hq) ▸ ?_
              revert p
              exact allc (show @Ne Nat dS I1 from hI1 (dS, o) List.mem_cons_self) fun p hp => hI1 _ (List.mem_cons_of_mem _ hp)
            · rw [List.take_add_one, List.getElem?_eq_getElem hi9, List.flatMap_append]
              simpa using hkv2
        · exact absurd hi (by first | k_mem | simp)
      case done2 =>
        rintro m nx h17 tk17 ⟨o, kvs, rfl, ho, hkv, u2, rfl⟩ F17 N17
        have htk : rw9.take (us9.take K).length = rw9.take K := by
          rw [List.length_take, hul9]
          by_cases hKl : K ≤ rw9.length
          · rw [Nat.min_eq_left hKl]
          · rw [Nat.min_eq_right (by omega), List.take_length, List.take_of_length_le (by omega)]
        rw [htk] at hkv
        k_steps
        unfold Stop
        have hpos : ∀ c ∈ rs.map coinOf, 0 ≤ c.1 := by
          intro c hc
          obtain ⟨r, hr, rfl⟩ := List.mem_map.mp hc
          obtain ⟨e, he, hq⟩ := List.mem_map.mp (hp.mem_iff.mp hr)
          have h1 := (List.mem_filter.mp he).2
          rw [← hq]
          show 0 ≤ e.2
          have := of_decide_eq_true h1
          omega
        obtain ⟨rr, hrr⟩ := rowOf_head (x := [-1]) hpos (M - 1)
        rw [← hcs', hrw9] at hrr
        have hK2 : ∃ K', K = K' + 1 := ⟨K - 1, by have : 0 < rs.length := List.length_pos_iff.mpr hrs; omega⟩
        have hmem : (-1 : Int) ∈ kvs.map (·.1) := by
          rw [hkv.1]
          refine mem_countAll ?_
          obtain ⟨K', rfl⟩ := hK2
          rw [hrr, List.take_succ_cons, List.flatMap_cons]
          exact List.mem_append_left _ (List.mem_singleton.mpr rfl)
        obtain ⟨v9, hv9⟩ := valueAt_some hmem
        have hkl : kvs.length ≤ sizeLine := by
          have h1 := hkv.length
          have h2 := countAll_length ((rw9.take K).flatMap (·.2))
          have h3 := flat_length (B := 2 ^ 15) (l := rw9.take K) fun c hc => hbd c (List.mem_of_mem_take hc)
          rw [List.length_take] at h3
          have h5 : min K rw9.length * 2 ^ 15 ≤ 122 * 2 ^ 15 := Nat.mul_le_mul_right _ (by omega)
          rw [sizeLine_eq]
          omega
        refine dict_pop (own := []) F17 N17 (fun _ h => nomatch h) hSR ho hkl hv9 ?_
        intro h18 o18 F18 N18 ho18
        have hkv18 := hkv.without (-1)
        dsimp only
        k_steps
        rename_i kF kN _ _
        refine hret _ ((dS, o18) :: (l10, listOf (us9.take K).toArray 0) :: (pre ++ tl2)) _ _ kF (nsub kN ?_) ?_ ⟨rs, hp, hpw, dS, o18, _, rfl, ?_, loS, ho18, ?_⟩
        · rw [hR1]
          exact alla (fun p hp => List.mem_cons_of_mem _ (List.mem_cons_of_mem _ (List.mem_append_left _ (List.mem_append_right _ hp)))) (allc (by k_mem) (allc (by k_mem) (alla (fun p hp => List.mem_cons_of_mem _ (List.mem_cons_of_mem _ (List.mem_append_left _ (List.mem_append_left _ hp)))) fun p hp => by k_mem)))
        · have hgn : ∀ q ∈ news, q ∈ pre ++ news ++ tl2 := fun q hq => List.mem_append_left _ (List.mem_append_right _ hq)
          exact allc (fun b hb => (addr_in hb).elim fun o ho => Nat.ne_of_gt (lS (b, o) (hgn _ ho))) (allc (fun b hb => (addr_in hb).elim fun o ho => Nat.ne_of_gt (tb_ltOf lt10.2 (b, o) (hgn _ ho))) (alla hOC fun p hp b hb => hO p hp b (by rw [List.map_append]; exact List.mem_append_right _ hb)))
        · exact List.mem_append_right _ List.mem_cons_self
        · have e : (rs.map coinOf) ≠ [] := by
            intro e
            exact hrs (List.map_eq_nil_iff.mp e)
          unfold sizesOf chosen
          rw [if_neg e, ← hcs', hrw9, List.length_map, ← hK]
          exact hkv18
end
section
open PyProof.Rows.LCg PyProof.Rows.LCt PyProof.Rows.LCp
set_option maxRecDepth 100000
set_option maxHeartbeats 8000000
/-- one more of the size z among the numbers told -/
noncomputable def tick (c : List Int) (z : Int) : List Int := c.set (z - 1).toNat (c.getD (z - 1).toNat 0 + 1)
noncomputable def tally (es : List (Int × Int)) : List Int := es.foldl (fun c e => tick c e.2) (List.replicate 16 0)
theorem tick_length (c : List Int) (z : Int) : (tick c z).length = c.length := by unfold tick; rw [List.length_set]
theorem m_one {a c : Str} {v : Option Value} {mR : Str → Option Value} (h1 : ¬ a = c) : (fun y => if y = c then v else mR y) = fun y => if y = a then mR y else if y = c then v else mR y := by
  funext y
  by_cases e1 : y = a
  · rw [if_pos e1, if_neg (e1 ▸ h1)]
  · rw [if_neg e1]
theorem m_shape1 {a c : Str} {v : Option Value} {mR m : Str → Option Value} (h : ∀ y, ¬ y = a → m y = if y = c then v else mR y) : ∃ u : Str → Option Value, m = fun y => if y = a then u y else if y = c then v else mR y := by
  refine ⟨m, funext fun y => ?_⟩
  by_cases e1 : y = a
  · rw [if_pos e1]
  · rw [if_neg e1]; exact h y e1
theorem datAll_ints {L9 : List (Addr × Obj)} : ∀ {vs : List Value} {ns : List Int}, IntsAre vs ns → DatAll L9 vs (ns.map .int)
  | _, _, .nil => .nil
  | _, _, .cons i t h => .cons (.int i t) (datAll_ints h)
theorem ints_of {L9 : List (Addr × Obj)} : ∀ {vs : List Value} {ns : List Int}, DatAll L9 vs (ns.map .int) → IntsAre vs ns
  | _, [], .nil => .nil
  | _, _ :: _, .cons (.int i t) h => .cons i t (ints_of h)
theorem ints_snoc {x : Int} {t : Tok} : ∀ {vs : List Value} {ns : List Int}, IntsAre vs ns → IntsAre (vs ++ [.int x t]) (ns ++ [x])
  | _, _, .nil => .cons x t .nil
  | _, _, .cons i u h => .cons i u (ints_snoc h)
theorem tally_snoc (es : List (Int × Int)) (e : Int × Int) : tally (es ++ [e]) = tick (tally es) e.2 := by unfold tally; rw [List.foldl_append]; rfl
theorem tally_length (es : List (Int × Int)) : (tally es).length = 16 := by
  have h : ∀ (es : List (Int × Int)) (c : List Int), (es.foldl (fun c e => tick c e.2) c).length = c.length := by
    intro es
    induction es with
    | nil => intro c; rfl
    | cons e es ih => intro c; rw [List.foldl_cons, ih, tick_length]
  unfold tally; rw [h]; rfl

noncomputable abbrev cTable (w : World) : Con (List (Int × Int)) where
  Rel := fun news vs d => ∃ v, vs = [v] ∧ DictI w news v d
  Ok := fun d => d.length < 60 ∧ ∀ e ∈ d, 1 ≤ e.2 ∧ e.2 ≤ 16
  size := 20
  Out := fun news r d => ∃ rs : List (Int × Int), rs.Perm (d.map fun e => (e.2, e.1)) ∧ rs.Pairwise (fun a b => lexlt a b = true) ∧ DatIn news r (.tuple [.tuple ((tally d).map .int), .tuple ((rs.map (·.2)).map .int)])
inductive TabI (DD : Addr) (R : List (Addr × Obj)) (d : List (Int × Int)) (mR : Str → Option Value) (i : Nat) (m : Str → Option Value) (nx : List (Addr × Obj)) : Prop
  | mk (vs : List Value) (e0 : nx = (DD, listOf vs.toArray 0) :: R) (e1 : IntsAre vs (tally (d.take i))) (e2 : ∃ u : Str → Option Value, m = fun y => if y = Str.ofString "symbol" then u y else if y = Str.ofString "counts" then some (.ref DD) else mR y) : TabI DD R d mR i m nx
inductive TabJ (DD : Addr) (R : List (Addr × Obj)) (d : List (Int × Int)) (vs : List Value) (i : Nat) (ys : List Value) (nw : List (Addr × Obj)) : Prop
  | mk (tl : List (Addr × Obj)) (e0 : nw = tl ++ ((DD, listOf vs.toArray 0) :: R)) (e1 : OwnOff tl (((DD, listOf vs.toArray 0) :: R).map (·.1))) (e2 : DatAll tl ys ((d.take i).map fun e => rowD (e.2, e.1))) : TabJ DD R d vs i ys nw
theorem table_tells (w : World) (mean mg mb) : TX w mean mg mb 89 (cTable w) := by
  unfold TX; k_fill
  intro d dp un gd cn cs a ccd cl outer A₀ base h₀ L m news s vs Q E B F X N T hk hR hok hd hu hret
  dsimp only [cTable] at hR hok hd hu hret
  obtain ⟨v, rfl, l, o, kvs, rfl, hl, hlo, hD, hI⟩ := hR
  have ks0 : KS "eval ListComp" := ⟨⟩; have ks1 : KS "pyIter ref" := ⟨⟩; have ks2 : KS "UnrEndW" := ⟨⟩; have ks3 : KS "SrcD" := ⟨⟩; have ks4 : KS "SrcLP" := ⟨⟩; have ks5 : KS "CompEnd" := ⟨⟩; have ks6 : KS "exec For" := ⟨⟩; have ks7 : KS "call builtin:sorted" := ⟨⟩; have ks8 : KS "call type:tuple" := ⟨⟩; have ks9 : KS "dict_at" := ⟨⟩; have ks10 : KS "dsimp" := ⟨⟩
  have ks9 : KS "enterC" := ⟨⟩
  have kM := kdMark
  have kM2 := kstMark
  refine wpAny_call ?_
  k_dflt ktr_enter
  k_steps
  rename_i g1 L1 h1_ tk1 FG1 B1 X1 T1 lt1 oc dc lz hz ltz DD hD_ iz nz sz ez1 ez2 ez3 ltD h2 F2 N2
  unfold Stop
  refine For_turns F2 ?_
  k_steps
  unfold Stop
  obtain ⟨mR, FM⟩ : ∃ mR : Str → Option Value, Fr g1 L1 h2 (fun y => if y = Str.ofString "counts" then some (.ref DD) else mR y) := ⟨_, F2⟩
  rw [m_one (a := Str.ofString "symbol") (by decide)] at FM
  obtain ⟨R, hR1⟩ : ∃ R, R = (lz, listOf #[Value.int 0 tk1] 0) :: (L1 + 1, oc) :: news := ⟨_, rfl⟩
  have hlR : (l, o) ∈ R := by rw [hR1]; exact List.mem_cons_of_mem _ (List.mem_cons_of_mem _ hl)
  have hcR : (L1 + 1, oc) ∈ R := by rw [hR1]; exact List.mem_cons_of_mem _ List.mem_cons_self
  have hDR : ∀ p ∈ R, p.1 ≠ DD := hR1 ▸ allc (Nat.ne_of_lt ltD.1) (allc (Nat.ne_of_lt ltD.2.1) fun p hp => Nat.ne_of_lt (tb_ltOf ltD.2.2 p hp))
  rw [← hR1] at N2
  refine for_keys (TabI DD R d mR)
    rfl FM N2 (List.mem_cons_of_mem _ hlR) hlo hD ?keep ⟨_, rfl, iz, mR, rfl⟩ ?turn ?done
  case keep =>
    rintro i m nx ⟨vs, rfl, -⟩
    exact List.mem_cons_of_mem _ hlR
  case turn =>
    rintro sx Q1 i k x t m nx I it h tk hi ⟨vs, rfl, hvs, u, rfl⟩ hIo hc F3 N3
    have hi' : i < d.length := by rw [← hI.length]; exact (List.getElem?_eq_some_iff.mp hi).1
    obtain ⟨t2, ht2⟩ := hI.get hi'
    obtain ⟨t3, ht3⟩ := hI.val hD hi'
    rw [ht2] at hi
    obtain ⟨hk1, hk2⟩ := Prod.mk.inj (Option.some.inj hi)
    rw [hk1] at ht3
    obtain ⟨z, hz, hz1, hz2⟩ : ∃ z, (d[i]).2 = z ∧ 1 ≤ z ∧ z ≤ 16 := ⟨_, rfl, (hok.2 _ (List.getElem_mem hi')).1, (hok.2 _ (List.getElem_mem hi')).2⟩
    rw [hz] at ht3
    have htl : (tally (d.take i)).length = 16 := tally_length _
    obtain ⟨ns, hns⟩ : ∃ ns, tally (d.take i) = ns := ⟨_, rfl⟩
    rw [hns] at hvs htl
    k_steps
    rename_i h4_ F4_ N4_ t4_
    refine ksa_set F4_ N4_ (.tail (hIo _ List.mem_cons_self).symm (.head hDR)) hvs (by omega) (by omega) (by omega) ?_
    intro h4 F4 N4 hi4 _ _
    k_steps
    unfold Stop
    refine ⟨_, _, _, _ :: R, rfl, F4, N4, ?_, _, rfl, ?_, m_shape1 fun y h1 => by simp only [if_neg h1]⟩
    · refine fun p hp q hq => (List.mem_singleton.mp hq) ▸ ?_
      revert p
      exact allc (hIo (DD, listOf vs.toArray 0) List.mem_cons_self) fun p hp => hIo _ (List.mem_cons_of_mem _ hp)
    · have e : d.take (i + 1) = d.take i ++ [d[i]] := by rw [List.take_add_one, List.getElem?_eq_getElem hi']; rfl
      rw [e, tally_snoc, hns, hz]
      exact hi4
  case done =>
    rintro m2 nx h tk ⟨vs, rfl, hvs, u, rfl⟩ F3 N3
    rw [hI.length, List.take_length] at hvs
    k_steps
    unfold Stop
    k_dflt (refine comp_dictU (F₀ := by k_asm) (by with_unfolding_all rfl) (by decide) (by rfl) (by decide) (by rfl) ?_)
    k_steps
    unfold Stop
    have hkl : kvs.length ≤ sizeLine := by
      have := hI.length
      rw [sizeLine_eq]; omega
    refine ⟨l, o, kvs, _, rfl, rfl, F3, N3, List.mem_cons_of_mem _ hlR, hlo, hD, hkl, ?_⟩
    rintro s₂ ⟨h5, rfl⟩
    refine restU (TabJ DD R d vs) ?turn2 ?fin2 ?init2
    case init2 => exact ⟨[], rfl, (fun _ h => nomatch h), DatAll.nil⟩
    case turn2 =>
      rintro i ys nw hi ⟨tl, rfl, hO, hA⟩ sy v I oI C oC D m₂ h tk E' hv hC hx F2 N2 hoff hne
      obtain ⟨k, x, t, hk, rfl⟩ := hv.int
      have hi' : i < d.length := by rw [← hI.length]; exact hi
      obtain ⟨t2, ht2⟩ := hI.get hi'
      obtain ⟨t3, ht3⟩ := hI.val hD hi'
      rw [ht2] at hk
      obtain ⟨hk1, hk2⟩ := Prod.mk.inj (Option.some.inj hk)
      rw [hk1] at ht3
      have hD2 : (l, o) ∈ tl ++ ((DD, listOf vs.toArray 0) :: R) := List.mem_append_right _ (List.mem_cons_of_mem _ hlR)
      have hoc : (L1 + 1, oc) ∈ tl ++ ((DD, listOf vs.toArray 0) :: R) := List.mem_append_right _ (List.mem_cons_of_mem _ hcR)
      k_steps
      rename_i D1 hhA FA NA lt1
      unfold Stop
      have hlt : ∀ q ∈ [(D1, ({ cls := .type "tuple", data := .seq #[.int (d[i]).2 t3, .int k t] } : Obj))], I < q.1 ∧ C < q.1 ∧ D < q.1 ∧ AllLt q.1 (tl ++ ((DD, listOf vs.toArray 0) :: R)) := allc lt1 alln
      refine compEnd_add [(D1, _)] (by assumption) NA hlt hoff (List.mem_cons_of_mem _ hD2) ⟨_ :: tl, rfl, own_add hO (fun _ hp => List.mem_append_right _ hp) _ hlt, ?_⟩
      have e : d.take (i + 1) = d.take i ++ [d[i]] := by rw [List.take_add_one, List.getElem?_eq_getElem hi']; rfl
      rw [e, List.map_append]
      refine DatAll.append (hA.mono fun p hp => List.mem_cons_of_mem _ hp) (DatAll.one (.tuple (vs := [_, _]) (n := 0) List.mem_cons_self (.cons (.int _ _) (.cons ?_ .nil))))
      rw [hk1]
      exact .int _ _
    case fin2 =>
      rintro ys nw ⟨tl, rfl, hO, hA⟩ D h tk F2 N2 o1
      rw [hI.length, List.take_length] at hA
      dsimp only
      k_steps
      unfold Stop
      have hnd : (d.map fun e => (e.2, e.1)).Nodup := by
        have h1 := hI.nodup hD
        rw [List.nodup_iff_pairwise_ne] at h1 ⊢
        rw [List.pairwise_map] at h1 ⊢
        exact h1.imp fun hab e => hab (Prod.mk.inj e).2
      rw [show (d.map fun e => rowD (e.2, e.1)) = (d.map fun e => (e.2, e.1)).map rowD from by rw [List.map_map]; rfl] at hA
      refine sorted_rows (by k_asm) N2 List.mem_cons_self hA (fun p hp => List.mem_cons_of_mem _ (List.mem_append_left _ hp)) hnd (by rw [List.length_map]; omega) fun D' ys' rs' c h' F3 N3 lt3 hp hpw hA' => ?_
      clear F2
      dsimp only
      have N4 : News g1 L1 h' ((D', listOf ys'.toArray c) :: (tl ++ ((DD, listOf vs.toArray 0) :: R))) := nsub N3 (allc List.mem_cons_self fun p hp => List.mem_cons_of_mem _ (List.mem_cons_of_mem _ hp))
      have lt4 : ∀ q ∈ (tl ++ ((DD, listOf vs.toArray 0) :: R)), q.1 < D' := fun q hq => lt3 q (List.mem_cons_of_mem _ hq)
      clear N3 N2 lt3
      k_steps
      rename_i h6 F6 N6
      unfold Stop
      refine kde_tupleOf F6 N6 (items := vs.toArray) ⟨_, (N6 (DD, listOf vs.toArray 0) (List.mem_cons_of_mem _ (List.mem_append_right _ List.mem_cons_self))).1, rfl, 0, rfl⟩ (by rw [List.size_toArray, hvs.length, tally_length]; decide) (zs := vs) (by first | k_mem | simp) ?_
      intro T1a h7 F7 N7 lt7
      k_steps
      unfold Stop
      dsimp only
      k_dflt (refine LCp.ListComp_P (F₀ := by k_asm) (by with_unfolding_all rfl) (by decide) (by rfl) (by decide) (by rfl) (by rfl) (by decide) ?_)
      k_steps
      unfold Stop
      have hyl : ys'.length = rs'.length := by simpa using hA'.length
      have hrl : rs'.length = d.length := by rw [hp.length_eq, List.length_map]
      refine SrcLP.ledger rfl (by k_asm) N7 (List.mem_cons_of_mem _ List.mem_cons_self) (by rw [List.size_toArray, sizeLine_eq]; omega) ?_
      intro g
      refine restP (fun i zs nw => nw = ((T1a, { cls := .type "tuple", data := .seq vs.toArray }) :: (D', listOf ys'.toArray c) :: (tl ++ ((DD, listOf vs.toArray 0) :: R))) ∧ IntsAre zs ((rs'.take i).map (·.2))) ?turn3 ?fin3 ?init3
      case init3 => exact ⟨rfl, .nil⟩
      case turn3 =>
        rintro i zs nw hi ⟨rfl, hZ⟩ v hv
        have hi' : i < rs'.length := by rw [List.size_toArray, hyl] at hi; exact hi
        obtain ⟨a1, t1, u1, n1, e1, m1⟩ := row_at hA' hi'
        have hv' : ys'[i]? = some v := by simpa using hv
        rw [e1] at hv'
        obtain rfl := Option.some.inj hv'
        refine ⟨a1, _, _, _, _, rfl, List.mem_cons_of_mem _ (List.mem_cons_of_mem _ (List.mem_append_left _ m1)), rfl, rfl, ?_⟩
        intro sz I oI C oC D m₂ h tk E' hC hx1 hx2 F2 N2 hoff hne
        k_steps
        unfold Stop
        dsimp only
        refine CompEnd.intro (by assumption) N2 _ (fun _ hp => hp) hoff (.inr ⟨_, List.mem_cons_of_mem _ List.mem_cons_self, rfl, _, rfl⟩) ⟨rfl, ?_⟩
        have ez : (rs'.take (i + 1)).map (·.2) = (rs'.take i).map (·.2) ++ [(rs'[i]).2] := by
          rw [List.take_add_one, List.getElem?_eq_getElem hi', List.map_append]; rfl
        rw [ez]
        exact ints_snoc hZ
      case fin3 =>
        rintro zs nw ⟨rfl, hZ⟩ D2 h tk F8 N8 o8
        rw [List.size_toArray, hyl, List.take_length] at hZ
        dsimp only
        k_steps
        unfold Stop
        refine kde_tupleOf F8 N8 (items := zs.toArray) ⟨_, (N8 (D2, lst zs) List.mem_cons_self).1, rfl, _, rfl⟩ (by rw [List.size_toArray, hZ.length, List.length_map]; omega) (zs := zs) (by first | k_mem | simp) ?_
        intro T2a h9 F9 N9 lt9
        dsimp only
        k_steps
        rename_i T3 h10 F10 N10 lt10 kF kN _ _
        refine hret _ ((T3, { cls := .type "tuple", data := .seq #[Value.ref T1a, Value.ref T2a] }) :: (T2a, { cls := .type "tuple", data := .seq zs.toArray }) :: (D2, lst zs) :: (T1a, { cls := .type "tuple", data := .seq vs.toArray }) :: (D', listOf ys'.toArray c) :: (tl ++ [(DD, listOf vs.toArray 0), (lz, listOf #[Value.int 0 tk1] 0), (L1 + 1, oc)])) _ _ kF (nsub kN ?_) ?_ ⟨rs', hp, hpw, ?_⟩
        · rw [hR1]
          have q : ∀ p ∈ (DD, listOf vs.toArray 0) :: (lz, listOf #[Value.int 0 tk1] 0) :: (L1 + 1, oc) :: news, p ∈ (T3, ({ cls := .type "tuple", data := .seq #[Value.ref T1a, Value.ref T2a] } : Obj)) :: (T2a, { cls := .type "tuple", data := .seq zs.toArray }) :: (D2, lst zs) :: (T1a, { cls := .type "tuple", data := .seq vs.toArray }) :: (D', listOf ys'.toArray c) :: (tl ++ (DD, listOf vs.toArray 0) :: (lz, listOf #[Value.int 0 tk1] 0) :: (L1 + 1, oc) :: news) :=
            fun p hp => List.mem_cons_of_mem _ (List.mem_cons_of_mem _ (List.mem_cons_of_mem _ (List.mem_cons_of_mem _ (List.mem_cons_of_mem _ (List.mem_append_right _ hp)))))
          exact alla (fun p hp => q p (by k_mem)) (allc (by k_mem) (allc (by k_mem) (allc (by k_mem) (allc (by k_mem) (allc (by k_mem) (alla (fun p hp => by k_mem) (allc (q _ (by k_mem)) (allc (q _ (by k_mem)) (allc (q _ (by k_mem)) alln)))))))))
        · have hbR : ∀ {b : Addr}, b ∈ news.map (·.1) → b ∈ ((DD, listOf vs.toArray 0) :: R).map (·.1) := fun hb => by
            rw [hR1]
            exact List.mem_cons_of_mem _ (List.mem_cons_of_mem _ (List.mem_cons_of_mem _ hb))
          have hqR : ∀ {q : Addr × Obj}, q ∈ news → q ∈ tl ++ ((DD, listOf vs.toArray 0) :: R) := fun hq => by
            rw [hR1]
            exact List.mem_append_right _ (List.mem_cons_of_mem _ (List.mem_cons_of_mem _ (List.mem_cons_of_mem _ hq)))
          have hq : ∀ {D : Addr}, (∀ q ∈ news, q.1 < D) → ∀ b ∈ news.map (·.1), D ≠ b := fun h b hb => (addr_in hb).elim fun o ho => Nat.ne_of_gt (h _ ho)
          exact allc (hq fun q h => tb_ltOf lt10.2.2.2.2 q (hqR h)) (allc (hq fun q h => lt9 q (List.mem_cons_of_mem _ (List.mem_cons_of_mem _ (List.mem_cons_of_mem _ (hqR h)))))
            (allc (fun b hb => (addr_in hb).elim fun o ho => (off1_mem o8 (b, o) (List.mem_cons_of_mem _ (List.mem_cons_of_mem _ (hqR ho)))).symm) (allc (hq fun q h => lt7 q (List.mem_cons_of_mem _ (hqR h))) (allc (hq fun q h => lt4 q (hqR h))
            (alla (fun p hp b hb => hO p hp b (hbR hb)) (allc (hq fun q h => tb_ltOf ltD.2.2 q h) (allc (hq fun q h => tb_ltOf ltz.2 q h) (allc (hq fun q h => Nat.lt_succ_of_lt (lt1 q h)) alln))))))))
        · refine .tuple (vs := [_, _]) (n := 0) (List.mem_append_right _ List.mem_cons_self) (.cons (.tuple (n := 0) (vs := vs) (List.mem_append_right _ (List.mem_cons_of_mem _ (List.mem_cons_of_mem _ (List.mem_cons_of_mem _ List.mem_cons_self)))) (datAll_ints hvs)) (.cons (.tuple (n := 0) (vs := zs) (List.mem_append_right _ (List.mem_cons_of_mem _ List.mem_cons_self)) (datAll_ints hZ)) .nil))
end
section
set_option maxRecDepth 100000
set_option maxHeartbeats 8000000
section

noncomputable abbrev cBest (w : World) : Con (List (Int × Int) × Nat) where
  Rel := fun news vs d => ∃ v, ((∃ t, vs = [v, .int d.2 t]) ∨ (vs = [v] ∧ d.2 = 16)) ∧ DictI w news v d.1
  Ok := fun d => d.1.length < 60 ∧ 1 ≤ d.2 ∧ d.2 ≤ 16 ∧ (worthRows d.1).length + 1 ≤ 2 ^ d.2 ∧ ∀ rs : List (Int × Int), rs.Perm (worthRows d.1) → rs.Pairwise (fun a b => lexlt a b = true) → (sizesOf (rs.map coinOf) d.2).length < 60 ∧ ∀ e ∈ sizesOf (rs.map coinOf) d.2, 1 ≤ e.2 ∧ e.2 ≤ 16
  size := 24
  Out := fun news r d => ∃ rs : List (Int × Int), rs.Perm (worthRows d.1) ∧ rs.Pairwise (fun a b => lexlt a b = true) ∧ ∃ ts : List (Int × Int), ts.Perm ((sizesOf (rs.map coinOf) d.2).map fun e => (e.2, e.1)) ∧ ts.Pairwise (fun a b => lexlt a b = true) ∧
    DatIn news r (.tuple [.tuple ((tally (sizesOf (rs.map coinOf) d.2)).map .int), .tuple ((ts.map (·.2)).map .int)])
theorem best_tells (w : World) (mean mg mb) : TX w mean mg mb 97 (cBest w) := by
  unfold TX; k_fill
  intro d dp un gd cn cs a ccd cl outer A₀ base h₀ L m news s vs Q E B F X N T hk hR hok hd hu hret
  obtain ⟨es, M⟩ := d
  dsimp only [cBest] at hR hok hd hu hret
  obtain ⟨v, hv, hR⟩ := hR
  have hcL := cLine_is
  have ks0 : KS "call ref" := ⟨⟩
  have ks9 : KS "enterD" := ⟨⟩
  have kM := kdMark
  have kM2 := kstMark
  rcases hv with ⟨t, rfl⟩ | ⟨rfl, h16⟩
  case' inr => subst h16
  all_goals
    refine wpAny_call ?_
    k_dflt ktr_enter
    refine tok_in (g := s.gens) (d := s.drawn) (o := s.os) fun tk00 => ?_
    k_steps
    rename_i g1 L1 h1 FG1 F1 N1 B1 X1 T1
    unfold Stop
    refine tx_use (sizes_tells w mean mg mb) (es, _) B1 F1 X1 N1 T1 rfl ⟨v, _, rfl, hR⟩ ⟨hok.1, hok.2.1, hok.2.2.1, hok.2.2.2.1⟩ (by show dp + 1 + 20 < recursionLimit; omega) (by show un + 3 + 8 * 20 < cLine; omega) ?_
    rintro r tl h2 tk2 F2 N2 hO2 ⟨rs, hp, hpw, hD⟩
    clear F1 N1
    dsimp only
    k_steps
    unfold Stop
    obtain ⟨q1, q2⟩ := hok.2.2.2.2 rs hp hpw
    refine tx_use (table_tells w mean mg mb) _ B1 F2 X1 N2 T1 rfl ⟨_, rfl, hD⟩ ⟨q1, q2⟩ (by show dp + 1 + 20 < recursionLimit; omega) (by show un + 3 + 8 * 20 < cLine; omega) ?_
    rintro r2 tl2 h3 tk3 F3 N3 hO3 ⟨ts, hp2, hpw2, hD2⟩
    dsimp only
    k_steps
    rename_i kF kN _ _
    refine hret _ (tl ++ tl2) _ _ kF (fun p hp => kN p ?_) ?_ ⟨rs, hp, hpw, ts, hp2, hpw2, ?_⟩
    · simpa using hp
    · intro p hp b hb
      rcases List.mem_append.mp hp with hp | hp
      · exact hO2 p hp b hb
      · refine hO3 p hp b ?_
        rw [List.map_append]
        exact List.mem_append_left _ hb
    · rw [← List.append_assoc]
      exact hD2
end
end
section
set_option maxRecDepth 100000
set_option maxHeartbeats 8000000
open Sem (wp)
section
variable {M : Model} {A : Around} {E : Value → Shared → Prop} {h : Heap} {g : Array GenState} {d : Drawn} {t : Nat} {os : OsState}
variable {nm q : Str} {C N : Addr} {bs bm bmN : List Value} {hdct : Bool} {sn : List Str} {sub : List Value} {ab : Bool} {col : Option Bool} {dd : Option Addr} {k0 k1 k2 k3 k5 : Option Value} {B newId initId : String}
theorem check_newX (F : ExcBaseFacts B newId initId bmN) (hc : bm.contains (.type B) = true) {rest : List Value} {Q : Unit → Shared → Prop} (hC : h.get? C = some (excClassObj nm q C N bs bm hdct sn sub ab col dd k0 k1 k2 k3 k5 newId))
    (hq : Q () ⟨h, g, d, t, os⟩) : wpAny M A (checkBuiltinCall newId ⟨.ref C :: rest, []⟩) Q E ⟨h, g, d, t, os⟩ := by
  have hcont : (Value.ref C :: bm).contains (.type B) = true := by rw [List.contains_cons, hc, Bool.or_true]
  have hstar := F.noStar
  simp only [checkBuiltinCall, F.newKind, F.newSplit, F.newRow]
  repeat (first | refine wpAny_loadPart_at hC ?_ | (refine wpAny_isSubtype_exc hC ?_; rw [hcont]) | refine wpAny_staticBase_exc hC ?_ | refine wpAny_madeBy_exc hC ?_ | simp only [bne_self_eq_false, Bool.false_eq_true, if_false] | wp_step)
  exact hq
end
section
variable {prog : Program} {w : World} {A : Around} {R : Result → Shared → Prop} {h : Heap} {g : Array GenState} {d : Drawn} {t : Nat} {os : OsState}
variable {nm q : Str} {C N : Addr} {bs bm bmN : List Value} {hdct : Bool} {sn : List Str} {sub : List Value} {ab : Bool} {col : Option Bool} {dd : Option Addr} {k0 k1 k2 k3 k5 : Option Value} {B newId initId : String}
theorem exc_newX (F : ExcBaseFacts B newId initId bmN) (hc : bm.contains (.type B) = true) (ha : bm.contains (.type "AttributeError") = false) (hn : bm.contains (.type "NameError") = false) {rest : List Value}
    (hC : h.get? C = some (excClassObj nm q C N bs bm hdct sn sub ab col dd k0 k1 k2 k3 k5 newId))
    (hq : R (.ok (.ret (.ref (h.objs.size + 1)))) ⟨(h.push { cls := .type "tuple", data := .seq rest.toArray }).push
      { cls := .ref C, data := .fields #[.ref h.objs.size, .none, .none, .none, .bool false, .none] }, g, d, t, os⟩) (hrest : rest.length ≤ sizeLine := by size_fits) :
    codeAny (model prog w) A (.builtin newId ⟨.ref C :: rest, []⟩) R ⟨h, g, d, t, os⟩ := by
  have hends := F.ends
  have hcB : (Value.ref C :: bm).contains (.type B) = true := by rw [List.contains_cons, hc, Bool.or_true]
  have hcA : (Value.ref C :: bm).contains (.type "AttributeError") = false := by rw [List.contains_cons, ha]; rfl
  have hcN : (Value.ref C :: bm).contains (.type "NameError") = false := by rw [List.contains_cons, hn]; rfl
  refine codeAny_builtinAt F.entry ?_
  unfold Builtin.«BaseException.__new__»
  refine PySem.wpAt_bind ?_
  show PySem.wpAt _ _ _ (stack >>= _) _ _ _
  refine PySem.wpAt_bind (PySem.wpAt_stack fun p below => PySem.wpAt_of_wpAny ?_)
  wp_walk
  refine PySem.wpAt_of_wpAny ?_
  rw [F.owner]
  repeat (first | with_reducible refine wpAny_madeHere_exc F.canon hC ?_ | with_reducible refine wpAny_loadPart_at hC ?_ | (with_reducible refine wpAny_isSubtype_exc hC ?_; first | rw [hcB] | rw [hcA] | rw [hcN]) | wp_step)
  show R _ _
  rw [Heap.size_push]
  exact hq
end
section
variable {prog : Program} {w : World} {A : Around} {E : Value → Shared → Prop} {h : Heap} {g : Array GenState} {d : Drawn} {t : Nat} {os : OsState}
variable {nm q : Str} {C N : Addr} {bs bm bmN : List Value} {hdct : Bool} {sn : List Str} {sub : List Value} {ab : Bool} {col : Option Bool} {dd : Option Addr} {k0 k1 k2 k3 k5 : Option Value} {B newId initId : String} {K : Frag}
theorem type_callX (F : ExcBaseFacts B newId initId bmN) (hc : bm.contains (.type B) = true) (ha : bm.contains (.type "AttributeError") = false) (hnm : bm.contains (.type "NameError") = false) (X : K.In h) {rest : List Value} {fI : Addr} {Q : Fin → Shared → Prop}
    (hC : h.get? C = some (excClassObj nm q C N bs bm hdct sn sub ab col dd k0 k1 k2 k3 k5 newId)) (hi : findIn K (.ref C) "__init__" = some (some (.ref fI))) (hf : typeIn K (.ref fI) = some (.type "function"))
    (hq : ∀ h' e, Heap.MadeExcOf h h' e (.ref C) rest →
      wpAny (model prog w) A (call (.ref fI) (.ref e :: rest)) (fun r s' => r = .none ∧ Q (.done (.ret (.ref e))) s') E ⟨h', g, d, t, os⟩) (hrest : rest.length ≤ sizeLine := by size_fits) :
    wpAny (model prog w) A (Builtin.«type.__call__» ⟨.ref C :: rest, []⟩) Q E ⟨h, g, d, t, os⟩ := by
  repeat (first | with_reducible refine wpAny_loadPart_at hC ?_ | with_reducible refine wpAny_madeBy_exc hC ?_ | wp_step)
  refine codeAny_call_builtin_code (Code.quiet_builtin _ F.quiet) (check_newX F hc hC ?_)
  refine exc_newX F hc ha hnm hC ?_ hrest
  show wpAny _ _ _ _ _ _
  have up : ∀ b o, h.get? b = some o → ((h.push { cls := .type "tuple", data := .seq rest.toArray }).push { cls := .ref C, data := .fields #[.ref h.objs.size, .none, .none, .none, .bool false, .none] }).get? b = some o := fun b o e => Heap.get?_push_of_some _ (Heap.get?_push_of_some _ e)
  have hC₁ := up _ _ hC
  have X₁ : K.In ((h.push { cls := .type "tuple", data := .seq rest.toArray }).push { cls := .ref C, data := .fields #[.ref h.objs.size, .none, .none, .none, .bool false, .none] }) := X.keeps up
  have hget : ((h.push { cls := .type "tuple", data := .seq rest.toArray }).push
      { cls := .ref C, data := .fields #[.ref h.objs.size, .none, .none, .none, .bool false, .none] }).get? (h.objs.size + 1) = some
      { cls := .ref C, data := .fields #[.ref h.objs.size, .none, .none, .none, .bool false, .none] } := by heap_get
  have hcC : (Value.ref C :: bm).contains (.ref C) = true := by simp
  unfold isInstance
  repeat (first | with_reducible refine wpAny_loadPart_at hget ?_ | (with_reducible refine wpAny_isSubtype_exc hC₁ ?_; rw [hcC]) | wp_step)
  show wpAny _ _ (typeLookup (.ref C) _) _ _ _
  refine (looks_findIn X₁ hi).here ?_
  refine wpAny_holding (wpAny_bind ((bind_fn X₁ _ hf).here ?_))
  refine wpAny_bind (wpAny_mono (hq _ (h.objs.size + 1) ⟨up, Heap.get?_none_of_le (Nat.le_succ _), h.objs.size, hget, Heap.get?_none_of_le (Nat.le_refl _), ?_⟩) (fun r s' hr => ?_) fun _ _ x => x)
  · exact Heap.get?_push_of_some _ (Heap.get?_push_at rfl rfl)
  · obtain ⟨rfl, hQ⟩ := hr
    wp_walk
    exact hQ
theorem call_excX (F : ExcBaseFacts B newId initId bmN) (hc : bm.contains (.type B) = true) (ha : bm.contains (.type "AttributeError") = false) (hnm : bm.contains (.type "NameError") = false) (X : K.In h) {rest : List Value} {fI : Addr} {Q : Value → Shared → Prop}
    (hC : h.get? C = some (excClassObj nm q C N bs bm hdct sn sub ab col dd k0 k1 k2 k3 k5 newId)) (hi : findIn K (.ref C) "__init__" = some (some (.ref fI))) (hf : typeIn K (.ref fI) = some (.type "function"))
    (hq : ∀ h' e, Heap.MadeExcOf h h' e (.ref C) rest →
      wpAny (model prog w) (A.under (.builtin "type.__call__" ⟨.ref C :: rest, []⟩)) (call (.ref fI) (.ref e :: rest)) (fun r s' => r = .none ∧ Q (.ref e) s') E ⟨h', g, d, t, os⟩) (hrest : rest.length ≤ sizeLine := by size_fits) :
    wpAny (model prog w) A (call (.ref C) rest) Q E ⟨h, g, d, t, os⟩ := by
  have f1 := tc_lookup
  have f2 := tc_bind (.ref C)
  have hT : (⟨h, g, d, t, os⟩ : Shared).TypeIs (.ref C) "type" := ⟨_, hC, rfl⟩
  refine wpAny_call (codeAny_of_tree ?_)
  show wpAny _ _ (callAny (.ref C) _) _ _ _
  repeat (any_goals (first | assumption | with_reducible refine wpAny_loadPart_at hC ?_ | wp_step))
  refine ⟨rfl, ?_⟩
  refine codeAny_call_builtin_at (Code.quiet_builtin _ (by decide +kernel)) entry_typeCall (wpAny_check_type_call_sub hC (type_callX (hrest := hrest) F hc ha hnm X hC hi hf fun h' e hm => ?_))
  exact hq h' e hm
end
end
section
set_option maxRecDepth 100000
set_option maxHeartbeats 8000000
section
variable {M : Model} {A : Around} {E : Value → Shared → Prop} {env : Env}
variable {nm q : Str} {C N : Addr} {bs bm bmN : List Value} {hdct : Bool} {sn : List Str} {sub : List Value} {ab : Bool} {col : Option Bool} {dd : Option Addr} {k0 k1 k2 k3 k5 : Option Value} {B newId initId : String}
theorem raiseStmtX {s : Shared} {x : Sem Value} {Q : Flow → Shared → Prop} (hbase : bm.contains (.type "BaseException") = true) (hh : A.handled = none)
    (h : wpAny M A x (fun v s₁ => ∃ e od vs osl, v = .ref e ∧ vs[1]? = some Value.none ∧ s₁.heap.get? C = some (excClassObj nm q C N bs bm hdct sn sub ab col dd k0 k1 k2 k3 k5 newId) ∧
      s₁.heap.get? e = some ⟨.ref C, od, .fields vs, osl⟩ ∧ E (.ref e) s₁) E s) :
    wpAny M A (raiseStmt env (some x) none) Q E s := by
  have hcB : (Value.ref C :: bm).contains (.type "BaseException") = true := by rw [List.contains_cons, hbase, Bool.or_true]
  unfold raiseStmt
  refine wpAny_bind (wpAny_mono h (fun v s₁ h₁ => ?_) fun _ _ x => x)
  obtain ⟨e, od, vs, osl, rfl, hv1, hC, he, hE⟩ := h₁
  obtain ⟨hp, g, d, tk, os⟩ := s₁
  repeat (first | with_reducible refine wpAny_loadPart_at he ?_ | with_reducible refine wpAny_loadPart_at hC ?_ | (with_reducible refine wpAny_isSubtype_exc hC ?_; rw [hcB]) | wp_step)
  rw [hv1]
  repeat (first | wp_step)
  exact wpAny_raiseNew_none hh hE
end
section
variable {prog : Program} {w : World} {A : Around} {E : Value → Shared → Prop} {s : Shared} {env : Env}
variable {nm q : Str} {C N : Addr} {bs bm bmN : List Value} {hdct : Bool} {sn : List Str} {sub : List Value} {ab : Bool} {col : Option Bool} {dd : Option Addr} {k0 k1 k2 k3 k5 : Option Value} {B newId initId : String} {K : Frag}
theorem Raise_callX (FB : ExcBaseFacts B newId initId bmN) (hc : bm.contains (.type B) = true) (hbase : bm.contains (.type "BaseException") = true) (ha : bm.contains (.type "AttributeError") = false) (hnm : bm.contains (.type "NameError") = false) {x : Str} {np cpos pos : Pos} {args : List PySem.Expr} {fI : Addr} {Q : Flow → Shared → Prop}
    (hi : findIn K (.ref C) "__init__" = some (some (.ref fI))) (hf : typeIn K (.ref fI) = some (.type "function"))
    (hh : A.handled = none) (hplain : (backTo cpos (starEach args env)).any (·.1) = false)
    (h : wpAny (model prog w) A (eval (.Name x np) env) (fun f s₁ => f = .ref C ∧ wpAny (model prog w) A (evalArgs (.ref C) true (backTo cpos (starEach args env)) [])
      (fun a s₂ => a.kw = [] ∧ a.pos.length ≤ sizeLine ∧ s₂.heap.get? C = some (excClassObj nm q C N bs bm hdct sn sub ab col dd k0 k1 k2 k3 k5 newId) ∧ K.In s₂.heap ∧
        ∀ h' e, Heap.MadeExcOf s₂.heap h' e (.ref C) a.pos →
          wpAny (model prog w) (A.under (.builtin "type.__call__" ⟨.ref C :: a.pos, []⟩)) (call (.ref fI) (.ref e :: a.pos))
            (fun r s' => r = .none ∧ s'.heap.get? C = some (excClassObj nm q C N bs bm hdct sn sub ab col dd k0 k1 k2 k3 k5 newId) ∧ (∃ od vs osl, vs[1]? = some Value.none ∧ s'.heap.get? e = some ⟨.ref C, od, .fields vs, osl⟩) ∧ E (.ref e) s') E { s₂ with heap := h' }) E s₁) E s) :
    wpAny (model prog w) A (exec (.Raise (some (.Call (.Name x np) args [] cpos)) none pos) env) Q E s := by
  rw [arm_exec_Raise]
  refine wpAny_bind (wpAny_standAt (raiseStmtX (C := C) (nm := nm) (q := q) (N := N) (bs := bs) (bm := bm) (hdct := hdct) (sn := sn) (sub := sub) (ab := ab) (col := col) (dd := dd) (k0 := k0) (k1 := k1) (k2 := k2) (k3 := k3) (k5 := k5) (newId := newId) hbase hh (wpAny_bind (wpAny_mono (wpAny_Call_ofName (wpAny_mono h (fun f s₁ h₁ => ?_) fun _ _ x => x)) (fun v s₃ h₃ => wpAny_bind (wpAny_standAt (wpAny_pure h₃))) fun _ _ x => x))))
  obtain ⟨rfl, h₁⟩ := h₁
  unfold callWith
  refine wpAny_bind (wpAny_holding (wpAny_mono h₁ (fun a s₂ h₂ => wpAny_bind (wpAny_standAt ?_)) fun _ _ x => x))
  obtain ⟨apos, akw⟩ := a
  obtain ⟨hkw, hlen, hC, hX, h₂⟩ := h₂
  obtain rfl : akw = [] := hkw
  obtain ⟨hp, g, d, tk, os⟩ := s₂
  simp only [hplain]
  refine wpAny_bind (wpAny_keeperOf_exc hC ?_)
  refine wpAny_bind (call_excX (hrest := hlen) FB hc ha hnm hX hC hi hf fun h' e hm => wpAny_mono (h₂ h' e hm) (fun r s' hr => ⟨hr.1, wpAny_bind (wpAny_holding (wpAny_point (wpAny_pure ?_)))⟩) fun _ _ x => x)
  obtain ⟨-, hC', ⟨od, vs, osl, hv1, ho⟩, hE⟩ := hr
  exact ⟨e, od, vs, osl, rfl, hv1, hC', ho, hE⟩
end
end
section
set_option maxRecDepth 100000
set_option maxHeartbeats 8000000
theorem upd_mid {d : Addr} {o o' : Obj} {post : List (Addr × Obj)} (hpost : ∀ p ∈ post, p.1 ≠ d) : ∀ {pre : List (Addr × Obj)}, (∀ p ∈ pre, p.1 ≠ d) → Upd d o o' (pre ++ (d, o) :: post) (pre ++ (d, o') :: post)
  | [], _ => .head hpost
  | p :: pre, h => .tail (h p List.mem_cons_self) (upd_mid hpost fun q hq => h q (List.mem_cons_of_mem _ hq))

local macro_rules | `(tactic| walk_at "subscriptTail") => `(tactic| (k_here; (with_reducible show wpAny _ _ (subscriptTail _ _ (Value.ref _) (Value.int _ _)) _ _ _); (refine' item_at ?k1 ?k2 ?k3 ?k4 ?k5 ?_ ?k7; (case k1 => k_asm); (case k3 => exact List.mem_append_right _ List.mem_cons_self); (case k2 => exact rfl); (case k4 => omega); (case k5 => omega); (case k7 => with_unfolding_all rfl); k_whole; (try dsimp only))))
noncomputable def TakeC (w : World) (mean : ExcName → Option Value) (mg mb : Str → Option Value) : Prop :=
  ∀ (x b top : Int) (tx tb tt : Tok) (c : Nat) (l : Addr) (pre post : List (Addr × Obj)) (dp un : Nat) (gd : Option (List Code)) (cn : Str) (cs : Scope) (a : Addr) (ccd : Value) (cl : List (Str × Addr)) (outer : List Env) (A₀ : Around) (base h₀ : Heap) (L : Addr) (m : Str → Option Value) (s : Shared)
    (Q E : Value → Shared → Prop),
    Below A₀ base outer h₀ → Fr h₀ L s.heap m → (heap w.params).In h₀ → News h₀ L s.heap (pre ++ (l, listOf #[.int x tx, .int b tb] c) :: post) → Top view (looseW view [Str.ofString "best_table"]) mean mg mb h₀ → cs.kind = .function →
    (∀ p ∈ pre, p.1 ≠ l) → (∀ p ∈ post, p.1 ≠ l) → 0 ≤ x → 0 ≤ b → b < 2147483647 → 1 ≤ top → top ≤ 1000 → dp + 4 < recursionLimit → un + 8 * 4 < cLine →
    (∀ r t x' b' tx' tb' c' h' tk', 0 ≤ r → r < top → 0 ≤ x' → 0 ≤ b' → b' < 2147483647 → Fr h₀ L h' m → News h₀ L h' (pre ++ (l, listOf #[.int x' tx', .int b' tb'] c') :: post) → Q (.int r t) { s with heap := h', toks := tk' }) →
    wpAny (model PySem.Challenge.rw_nt0548_01.row.prog w) (ktrTop dp un gd cn cs L a ccd cl outer) (call (.ref 160) [.ref l, .int top tt]) Q E s
theorem take_tells (w : World) (mean mg mb) : TakeC w mean mg mb := by
  unfold TakeC; k_fill
  intro x b top tx tb tt c l pre post dp un gd cn cs a ccd cl outer A₀ base h₀ L m s Q E B F X N T hk hpre hpost hx hb0 hb1 ht0 ht1 hd hu hret
  have ks0 : KS "setItem" := ⟨⟩
  have kM := kdMark
  have kM2 := kstMark
  have hcL := cLine_is
  refine wpAny_call ?_
  k_dflt ktr_enter
  refine tok_in (g := s.gens) (d := s.drawn) (o := s.os) fun tk00 => ?_
  k_steps
  · rename_i h1 F1 N1 tk1 hx0 tk2
    unfold Stop
    have hx9 : 0 ≤ x.fdiv top := by rw [Int.fdiv_eq_ediv_of_nonneg _ (by omega)]; exact Int.ediv_nonneg hx (by omega)
    have hr9 : 0 ≤ x.fmod top ∧ x.fmod top < top := ⟨Int.fmod_nonneg_of_pos _ (by omega), Int.fmod_lt_of_pos _ (by omega)⟩
    dsimp only
    refine ksa_set (by k_asm) (by k_asm) (upd_mid hpost hpre) (.cons x tx (.cons b tb .nil)) (by omega) (by show (0 : Int) < 2; decide) (by omega) ?_
    intro h2 F2 N2 _ _ _
    k_steps
    rename_i kF kN _ _
    exact hret _ _ _ _ _ _ _ _ _ hr9.1 hr9.2 hx9 hb0 hb1 kF kN
  · rename_i hx0 tk2
    unfold Stop
    have hb9 : 0 ≤ (b * 39373 + 7).fmod 2147483647 ∧ (b * 39373 + 7).fmod 2147483647 < 2147483647 := ⟨Int.fmod_nonneg_of_pos _ (by omega), Int.fmod_lt_of_pos _ (by omega)⟩
    obtain ⟨y, hy⟩ : ∃ y, (b * 39373 + 7).fmod 2147483647 = y := ⟨_, rfl⟩
    rw [hy] at hb9 ⊢
    dsimp only
    refine ksa_set (by k_asm) (by k_asm) (upd_mid hpost hpre) (.cons x tx (.cons b tb .nil)) (by omega) (by show (1 : Int) < 2; decide) (by omega) ?_
    intro h2 F2 N2 z1 z2 z3
    clear z1 z2 z3
    obtain ⟨ty, N3⟩ : ∃ ty, News _ _ h2 (pre ++ (l, listOf #[.int x tx, .int y ty] c) :: post) := ⟨_, N2⟩
    clear N2
    k_steps
    rename_i kF kN _ _
    exact hret _ _ _ _ _ _ _ _ _ (Int.fmod_nonneg_of_pos _ (by omega)) (Int.fmod_lt_of_pos _ (by omega)) hx hb9.1 hb9.2 kF kN
section
theorem take_use {w : World} {mean : ExcName → Option Value} {mg mb : Str → Option Value} {x b top : Int} {tx tb tt : Tok} {c : Nat} {l : Addr} {pre post news : List (Addr × Obj)} {dp un : Nat} {gd : Option (List Code)} {cn : Str} {cs : Scope} {a : Addr} {ccd : Value} {cl : List (Str × Addr)} {outer : List Env} {A₀ : Around} {base h₀ : Heap} {L : Addr} {m : Str → Option Value} {s : Shared}
    {Q E : Value → Shared → Prop} (B : Below A₀ base outer h₀) (F : Fr h₀ L s.heap m) (X : (heap w.params).In h₀) (N : News h₀ L s.heap news) (T : Top view (looseW view [Str.ofString "best_table"]) mean mg mb h₀) (hk : cs.kind = .function)
    (hn : news = pre ++ (l, listOf #[.int x tx, .int b tb] c) :: post) (hpre : ∀ p ∈ pre, p.1 ≠ l) (hpost : ∀ p ∈ post, p.1 ≠ l) (hx : 0 ≤ x) (hb0 : 0 ≤ b) (hb1 : b < 2147483647) (ht0 : 1 ≤ top) (ht1 : top ≤ 1000) (hd : dp + 4 < recursionLimit) (hu : un + 8 * 4 < cLine)
    (ret : ∀ r t x' b' tx' tb' c' h' tk', 0 ≤ r → r < top → 0 ≤ x' → 0 ≤ b' → b' < 2147483647 → Fr h₀ L h' m → News h₀ L h' (pre ++ (l, listOf #[.int x' tx', .int b' tb'] c') :: post) → Q (.int r t) { s with heap := h', toks := tk' }) :
    wpAny (model PySem.Challenge.rw_nt0548_01.row.prog w) (ktrTop dp un gd cn cs L a ccd cl outer) (call (.ref 160) [.ref l, .int top tt]) Q E s :=
  take_tells w mean mg mb x b top tx tb tt c l pre post dp un gd cn cs a ccd cl outer A₀ base h₀ L m s Q E B F X (hn ▸ N) T hk hpre hpost hx hb0 hb1 ht0 ht1 hd hu ret
end
end
section
set_option maxRecDepth 100000
set_option maxHeartbeats 8000000
theorem big_nonneg (z : Int) : 0 ≤ (if -1 - z > z then -1 - z else z) := by split <;> omega
theorem flag_nonneg (b : Bool) : 0 ≤ (if b = true then (1 : Int) else 0) := by split <;> decide
noncomputable def PoolC (w : World) (mean : ExcName → Option Value) (mg mb : Str → Option Value) : Prop :=
  ∀ (sl : Addr) (ws : List Value) (ns : List Int) (news : List (Addr × Obj)) (dp un : Nat) (gd : Option (List Code)) (cn : Str) (cs : Scope) (a : Addr) (ccd : Value) (cl : List (Str × Addr)) (outer : List Env) (A₀ : Around) (base h₀ : Heap) (L : Addr) (m : Str → Option Value) (s : Shared)
    (Q E : Value → Shared → Prop),
    Below A₀ base outer h₀ → Fr h₀ L s.heap m → (heap w.params).In h₀ → News h₀ L s.heap news → Top view (looseW view [Str.ofString "best_table"]) mean mg mb h₀ → cs.kind = .function →
    h₀.IsList sl ws.toArray → IntsAre ws ns → ns.length ≤ 63 → dp + 4 < recursionLimit → un + 8 * 4 < cLine →
    (∀ l x b tx tb c h' tk', 0 ≤ x → 0 ≤ b → b < 2147483647 → Fr h₀ L h' m → News h₀ L h' ((l, listOf #[.int x tx, .int b tb] c) :: news) → (∀ p ∈ news, p.1 < l) → Q (.ref l) { s with heap := h', toks := tk' }) →
    wpAny (model PySem.Challenge.rw_nt0548_01.row.prog w) (ktrTop dp un gd cn cs L a ccd cl outer) (call (.ref 153) [.ref sl]) Q E s
theorem pool_tells (w : World) (mean mg mb) : PoolC w mean mg mb := by
  unfold PoolC; k_fill
  intro sl ws ns news dp un gd cn cs a ccd cl outer A₀ base h₀ L m s Q E B F X N T hk hL hI hlen hd hu hret
  have kM := kdMark
  have kM2 := kstMark
  have hcL := cLine_is
  refine wpAny_call ?_
  k_dflt ktr_enter
  refine tok_in (g := s.gens) (d := s.drawn) (o := s.os) fun tk00 => ?_
  rename_i g' L' h' FG' F' N' B' X' T'
  have hL' : g'.IsList sl ws.toArray := let ⟨o, ho, r⟩ := hL; ⟨o, FG'.keep _ _ ho, r⟩
  have hls := hI.length
  k_steps
  all_goals
    rename_i l1 kF kN _ _
    exact hret _ _ _ _ _ _ _ _ (Int.mul_nonneg (big_nonneg _) (flag_nonneg _)) (Int.fmod_nonneg_of_pos _ (by decide)) (Int.fmod_lt_of_pos _ (by decide)) kF kN l1
end
section
set_option maxRecDepth 100000
section
variable {prog : Program} {w : World} {A : Around} {E : Value → Shared → Prop} {s : Shared} {h₀ : Heap} {L t : Addr} {m : Str → Option Value} {news : List (Addr × Obj)}
theorem min_intTup {xs : Array (Int × Tok)} {Q : Value → Shared → Prop} (hh : A.handled = none) (ht : s.heap.IsTuple t (intItems xs)) (hne : 0 < xs.size)
    (h : ∀ v h' tk, (intItems xs)[argBest (fun i j => decide (PySem.numAt xs i < PySem.numAt xs j)) (xs.size - 1)]? = some v → (∀ b o, s.heap.get? b = some o → h'.get? b = some o) → Q v { s with heap := h', toks := tk }) :
    wpAny (model prog w) A (call (.builtin "min") [.ref t]) Q E s := by
  obtain ⟨o, ho, hc, n, hd⟩ := id ht
  have htn : t ≠ s.heap.objs.size := Nat.ne_of_lt (Heap.lt_size ho)
  refine call_min_walk (wpAny_pyIter_tuple ht ?_)
  refine ⟨s.heap.objs.size, _, _, _, _, _, _, rfl, Walks.tuple (A := A.in1) hh _ t htn (intItems xs), ⟨⟨_, Heap.get?_push_size _ rfl, rfl, rfl⟩, ht.at fun o e => Heap.get?_push_of_some _ e⟩, fun b hb => ?_, by simpa [intItems] using hne, CmpOf.ints_lt (PySem.numAt xs) (fun _ _ => intItems_at), fun v h' tk hP hk => ?_⟩
  · rcases List.mem_cons.mp hb with rfl | hb
    · exact Heap.lt_size (Heap.get?_push_size _ rfl)
    · obtain rfl := List.mem_singleton.mp hb
      exact Heap.lt_size (Heap.get?_push_of_some _ ho)
  · exact h v h' tk (by simpa [intItems] using hP) fun b o e => hk b o (fun hb => absurd (Heap.lt_size e) ((List.mem_singleton.mp hb) ▸ Nat.lt_irrefl _)) (Heap.get?_push_of_some _ e)
theorem min_tup {vs : List Value} {ns : List Int} {n : Nat} {Q : Value → Shared → Prop} (hh : A.handled = none) (F : Fr h₀ L s.heap m) (N : News h₀ L s.heap news)
    (hm : (t, ({ cls := .type "tuple", data := .seq vs.toArray n } : Obj)) ∈ news) (hi : IntsAre vs ns) (hne : 0 < ns.length)
    (h : ∀ h' M (t : Tok) tk, Fr h₀ L h' m → News h₀ L h' news → M ∈ ns → (∀ a, a ∈ ns → M ≤ a) → Q (.int M t) { s with heap := h', toks := tk }) :
    wpAny (model prog w) A (call (.builtin "min") [.ref t]) Q E s := by
  have hl : s.heap.IsTuple t vs.toArray := ⟨_, (N _ hm).1, rfl, n, rfl⟩
  obtain ⟨xs, e⟩ := hi.allInts.items
  have hns : ns = xs.toList.map (·.1) := by
    rw [← hi.numsOf, ← nums_intItems, ← e]
  have hsz : 0 < xs.size := by
    have h3 := hne; rw [hns, List.length_map, Array.length_toList] at h3; exact h3
  rw [e] at hl
  refine min_intTup hh hl hsz fun v h' tk hv hk => ?_
  obtain ⟨t, rfl⟩ := intItems_at hv
  obtain ⟨h1, h2⟩ := argBest_lt (PySem.numAt xs) (xs.size - 1)
  refine h _ _ t tk (F.grownK hk) (N.grown hk) ?_ fun a ha => ?_
  · rw [hns, numAt_eq]; exact getD_mem (by rw [List.length_map, Array.length_toList]; omega)
  · rw [hns] at ha
    obtain ⟨j, hj, rfl⟩ := mem_getD ha
    rw [List.length_map, Array.length_toList] at hj
    rw [← numAt_eq]; exact h2 j (by omega)
theorem sum_tup {vs : List Value} {ns : List Int} {n : Nat} {Q : Value → Shared → Prop} (hh : A.handled = none) (F : Fr h₀ L s.heap m) (N : News h₀ L s.heap news) (hm : (t, ({ cls := .type "tuple", data := .seq vs.toArray n } : Obj)) ∈ news) (hi : IntsAre vs ns)
    (h : ∀ h' tk t', Fr h₀ L h' m → News h₀ L h' news → Q (.int ns.sum t') { s with heap := h', toks := tk }) :
    wpAny (model prog w) A (call (.builtin "sum") [.ref t]) Q E s := by
  have hl : s.heap.IsTuple t vs.toArray := ⟨_, (N _ hm).1, rfl, n, rfl⟩
  obtain ⟨xs, hx⟩ := hi.allInts.items
  have hn : numsOf vs.toArray.toList = ns := by rw [show vs.toArray.toList = vs from rfl, hi.numsOf]
  rw [hx] at hl hn
  rw [nums_intItems] at hn
  refine ktm_sumG hh hl fun h' tk t' hk => ?_
  have := h h' tk t' (F.keeps hk) (N.grown hk)
  rw [preSum_eq, List.take_of_length_le (by simp), hn]
  exact this
theorem len_tup {vs : List Value} {n k : Nat} {Q : Value → Shared → Prop} (N : News h₀ L s.heap news) (hm : (t, ({ cls := .type "tuple", data := .seq vs.toArray n } : Obj)) ∈ news) (hk : vs.length = k) (hfit : k < 1000000)
    (h : Q (.int (k : Int) (s.toks + 1)) { s with toks := s.toks + 1 + 1 }) : wpAny (model prog w) A (call (.builtin "len") [.ref t]) Q E s := by
  have e : vs.toArray.size = k := by rw [List.size_toArray, hk]
  refine PySem.P.len_tuple (N _ hm).1 (by rw [e]; omega) (by rw [e]; exact h)
theorem item_tup {value slice : PySem.Expr} {us : List Value} {n : Nat} {k : Int} {u : Tok} {v : Value} {Q : Value → Shared → Prop} (N : News h₀ L s.heap news) (hx : us[k.toNat]? = some v) (hm : (t, ({ cls := .type "tuple", data := .seq us.toArray n } : Obj)) ∈ news)
    (h0 : 0 ≤ k) (hfit : k < 2 ^ 63) (h : Q v s)
    (hs : subscripted slice false (.ref t) (.int k u) = operate [.ref t, .int k u] (getItem (.ref t) (.int k u)) := by with_unfolding_all rfl) :
    wpAny (model prog w) A (subscriptTail value slice (.ref t) (.int k u)) Q E s := by
  have hl : IsTup s.heap t us.toArray := ⟨_, (N _ hm).1, rfl, n, rfl⟩
  have hlt := (List.getElem?_eq_some_iff.mp hx).1
  refine item_tupleT hl (by omega) hfit (j := k.toNat) ?_ hx h hs
  have e1 : ¬ k < 0 := by omega
  have e2 : k < us.length := by omega
  simp [seqIndex?, e1, e2, h0]
end
end
section
set_option maxRecDepth 100000
set_option maxHeartbeats 8000000

theorem ints_of' {L9 : List (Addr × Obj)} : ∀ {vs : List Value} {ns : List Int}, DatAll L9 vs (ns.map .int) → IntsAre vs ns
  | _, [], .nil => .nil
  | _, _ :: _, .cons (.int i t) h => .cons i t (ints_of' h)
noncomputable abbrev cCheck : Con (List Int × List Int) where
  Rel := fun news vs d => ∃ v v', vs = [v, v'] ∧ DatIn news v (.tuple (d.1.map .int)) ∧ DatIn news v' (.tuple (d.2.map .int))
  Ok := fun d => d.1.length = 16 ∧ (∀ x ∈ d.1, 0 ≤ x) ∧ d.1.sum = d.2.length ∧ d.2.length < 60 ∧ d.2.Nodup
  size := 4
  Out := fun news r d => r = .none
inductive ChkI (w : World) (D : Addr) (news : List (Addr × Obj)) (sys : List Int) (mR : Str → Option Value) (i : Nat) (m : Str → Option Value) (nx : List (Addr × Obj)) : Prop
  | mk (so : Obj) (e0 : nx = (D, so) :: news) (e1 : so.SetObjOf (intKind PySem.Challenge.rw_nt0548_01.row.prog w) (fun k => decide (k ∈ sys.take i)) i) (e2 : ∃ u : Str → Option Value, m = fun y => if y = Str.ofString "symbol" then u y else if y = Str.ofString "met" then some (.ref D) else mR y) : ChkI w D news sys mR i m nx
theorem check_tells (w : World) (mean mg mb) : TX w mean mg mb 111 cCheck := by
  unfold TX; k_fill
  intro d dp un gd cn cs a ccd cl outer A₀ base h₀ L m news s vs Q E B F X N T hk hR hok hd hu hret
  obtain ⟨cts, sys⟩ := d
  dsimp only [cCheck] at hR hok hd hu hret
  obtain ⟨v, v', rfl, hR1, hR2⟩ := hR
  cases hR1
  rename_i lc us nc hlc hDc
  cases hR2
  rename_i ls zs ns hls hDs
  have ks0 : KS "pyIter ref" := ⟨⟩; have ks1 : KS "UnrEndW" := ⟨⟩; have ks2 : KS "exec For" := ⟨⟩; have ks3 : KS "call builtin:len" := ⟨⟩; have ks4 : KS "call builtin:min" := ⟨⟩; have ks5 : KS "call builtin:sum" := ⟨⟩
  have kM := kdMark
  have kM2 := kstMark
  have hcL := cLine_is
  refine wpAny_call ?_
  k_dflt ktr_enter
  refine tok_in (g := s.gens) (d := s.drawn) (o := s.os) fun tk00 => ?_
  have hul : us.length = 16 := by have := hDc.length; rw [List.length_map] at this; omega
  have hzl : zs.length = sys.length := by have := hDs.length; rw [List.length_map] at this; omega
  k_steps
  rename_i g1 L1 h1 FG1 F1 N1 B1 X1 T1
  unfold Stop
  refine len_tup N1 hlc hul (by decide) ?_
  k_steps
  unfold Stop
  refine min_tup rfl F1 N1 hlc (ints_of' hDc) (by omega) ?_
  intro h2 M t tk2 F2 N2 hM1 hM2
  have hM0 := hok.2.1 M hM1
  clear F1 N1
  k_steps
  all_goals (try (exfalso; omega))
  unfold Stop
  refine sum_tup rfl F2 N2 hlc (ints_of' hDc) ?_
  intro h3 tk3 t3 F3 N3
  clear F2 N2
  k_steps
  unfold Stop
  refine len_tup N3 hls hzl (by omega) ?_
  k_steps
  all_goals (try (exfalso; omega))
  unfold Stop
  refine len_tup N3 hls hzl (by omega) ?_
  k_steps
  all_goals (try (exfalso; omega))
  rename_i e0 D hx led ltD hso hso2 h4 F4 N4
  clear hso2
  unfold Stop
  refine For_turns F4 ?_
  k_steps
  unfold Stop
  obtain ⟨mR, FM⟩ : ∃ mR : Str → Option Value, Fr g1 L1 h4 (fun y => if y = Str.ofString "met" then some (.ref D) else mR y) := ⟨_, F4⟩
  rw [m_one (a := Str.ofString "symbol") (by decide)] at FM
  have hDR : ∀ p ∈ news, p.1 ≠ D := fun p hp => Nat.ne_of_lt (ltD p hp)
  refine for_tup (ChkI w D news sys mR)
    rfl FM N4 (List.mem_cons_of_mem _ hls) ?keep ⟨_, rfl, by simpa using hso, mR, rfl⟩ ?turn ?done
  case keep =>
    rintro i m nx ⟨so, rfl, -⟩
    exact List.mem_cons_of_mem _ hls
  case turn =>
    rintro sx Q1 i v m nx I it h tk hi ⟨so, rfl, hs, u, rfl⟩ hIo hc F5 N5
    obtain ⟨hi', t1, rfl⟩ : ∃ (hj : i < sys.length) (t : Tok), v = .int sys[i] t := by
      have hj : i < sys.length := by rw [← hzl]; exact (List.getElem?_eq_some_iff.mp hi).1
      obtain ⟨v', hv', hD⟩ := hDs.get (k := i) (by simpa using hj)
      rw [hi] at hv'
      obtain rfl := Option.some.inj hv'
      have e : (sys.map Dat.int)[i]'(by simpa using hj) = .int sys[i] := by simp
      rw [e] at hD
      cases hD
      exact ⟨hj, _, rfl⟩
    have hnot : sys[i] ∉ sys.take i := by
      intro hm
      obtain ⟨j, hj, e⟩ := List.mem_take_iff_getElem.mp hm
      have hpw := List.pairwise_iff_getElem.mp hok.2.2.2.2
      exact hpw j i (by omega) hi' (by omega) e
    k_steps
    rename_i _ F6 _
    refine kse_add (knd := PySem.intKind _ _) F6 NR (.tail (hIo (D, so) List.mem_cons_self).symm (.head hDR)) hsoR (by unfold scanBound; omega) (intKind_is _ _ _ _) rfl ?_
    intro h7 so7 F7 N7 hs7
    have eS : (fun k' => decide (k' ∈ sys.take i) || decide (k' = sys[i])) = fun k => decide (k ∈ sys.take (i + 1)) := by
      funext k
      rw [List.take_add_one, List.getElem?_eq_getElem hi', Bool.eq_iff_iff]
      simp only [Option.toList_some, List.mem_append, List.mem_singleton, Bool.or_eq_true, decide_eq_true_eq]
    rw [eS, if_neg (by simpa using hnot)] at hs7
    k_steps
    unfold Stop
    refine ⟨_, _, _, (D, so7) :: news, rfl, F7, N7, ?_, so7, rfl, hs7, m_shape1 fun y h1 => by simp only [if_neg h1]⟩
    intro p hp q hq
    rw [List.mem_singleton.mp hq]
    rcases List.mem_cons.mp hp with rfl | hp
    · exact hIo (D, so) List.mem_cons_self
    · exact hIo _ (List.mem_cons_of_mem _ hp)
  case done =>
    rintro m2 nx h tk ⟨so, rfl, hs, u, rfl⟩ F3 N3
    k_steps
    rename_i kF kN _ _
    refine hret _ [(D, so)] _ _ kF (fun p hp => kN p (by simp only [List.mem_append, List.mem_cons, List.not_mem_nil, or_false] at hp ⊢; rcases hp with hp | hp <;> first | (subst hp; k_mem) | k_mem | simp [hp])) ?_ rfl
    intro p hp b hb
    rw [List.mem_singleton.mp hp]
    obtain ⟨q, hq, rfl⟩ := List.mem_map.mp hb
    exact Nat.ne_of_gt (ltD q hq)
end
section
set_option maxRecDepth 100000
section
variable {prog : Program} {w : World} {A : Around} {E : Value → Shared → Prop} {s : Shared} {env : Env} {h₀ : Heap} {x : Str} {body : List Stmt} {Q : Flow → Shared → Prop}
theorem krs_ind {I : Addr} {a c : Int} {n : Nat} (Inv : Nat → (Str → Option Value) → List (Addr × Obj) → Prop)
    (turn : ∀ i m nx it h tk t, i < n → Inv i m nx → (∀ p ∈ nx, p.1 ≠ I) → it.cls = .type "range_iterator" → Fr h₀ env.locals h (fun y => if y = x then some (.int (a + (i : Int) * c) t) else m y) → News h₀ env.locals h ((I, it) :: nx) →
      wpAny (model prog w) A (execs body env) (UnrPost h₀ env.locals { s with heap := h, toks := tk } I it (Inv (i + 1)) Q) E { s with heap := h, toks := tk })
    (done : ∀ m nx h tk, Inv n m nx → Fr h₀ env.locals h m → News h₀ env.locals h nx → Q .next { s with heap := h, toks := tk })
    {m₀ : Str → Option Value} {news : List (Addr × Obj)} (h0 : Inv 0 m₀ news) (off : ∀ p ∈ news, p.1 ≠ I) : KrsRest prog w A E h₀ env x body Q s I a c n n 0 m₀ news := by
  have all : ∀ k i m nx, i + k = n → Inv i m nx → (∀ p ∈ nx, p.1 ≠ I) → KrsRest prog w A E h₀ env x body Q s I a c n k i m nx := by
    intro k
    induction k with
    | zero =>
      intro i m nx e hi _ h tk F N
      exact done m nx h tk (by rw [← e]; exact hi) F N
    | succ k ih =>
      intro i m nx e hi ho t h tk F N
      refine wpAny_mono (turn i m nx _ h tk t (by omega) hi ho rfl F N) (fun f s₃ p => ?_) fun _ _ e => e
      have fin : UnrEnd h₀ env.locals { s with heap := h, toks := tk } I (krsIt (a + ((i + 1 : Nat) : Int) * c) ((n : Int) - ((i + 1 : Nat) : Int)) c) (Inv (i + 1)) s₃ → UnrEnd h₀ env.locals { s with heap := h, toks := tk } I (krsIt (a + ((i + 1 : Nat) : Int) * c) ((n : Int) - ((i + 1 : Nat) : Int)) c) (KrsRest prog w A E h₀ env x body Q s I a c n k (i + 1)) s₃ := by
        rintro ⟨h', tk', m', news', e1, F', N', ho', hi'⟩
        exact ⟨h', tk', m', news', e1, F', N', ho', ih (i + 1) m' news' (by omega) hi' ho'⟩
      cases f with
      | ret v => exact p
      | brk => exact p
      | next => exact fin p
      | cont => exact fin p
  exact all n 0 m₀ news (by omega) h0 off
/-- a for over a range -/
theorem for_range {r : Addr} {a₀ b₀ c : Int} {t₀ u₀ v₀ : Tok} {n : Nat} {m₀ : Str → Option Value} {news : List (Addr × Obj)} (Inv : Nat → (Str → Option Value) → List (Addr × Obj) → Prop)
    (hh : A.handled = none) (hr : IsRange s.heap r a₀ b₀ c t₀ u₀ v₀) (hsmall : Builtin.Range.small a₀ b₀ c = true) (hn : Builtin.Range.rangeSize a₀ b₀ c = (n : Int)) (F : Fr h₀ env.locals s.heap m₀) (N : News h₀ env.locals s.heap news) (h0 : Inv 0 m₀ news)
    (turn : ∀ (sx : Shared) (Q₁ : Flow → Shared → Prop) i m nx I it h tk t, i < n → Inv i m nx → (∀ p ∈ nx, p.1 ≠ I) → it.cls = .type "range_iterator" → Fr h₀ env.locals h (fun y => if y = x then some (.int (a₀ + (i : Int) * c) t) else m y) → News h₀ env.locals h ((I, it) :: nx) →
      wpAny (model prog w) A (execs body env) (UnrPost h₀ env.locals { sx with heap := h, toks := tk } I it (Inv (i + 1)) Q₁) E { sx with heap := h, toks := tk })
    (done : ∀ m nx h tk, Inv n m nx → Fr h₀ env.locals h m → News h₀ env.locals h nx → Q .next { s with heap := h, toks := tk }) :
    wpAny (model prog w) A (pyIter (.ref r)) (fun it s₂ => LoopAtV prog w A h₀ env x body Q E it s₂) E s :=
  krs_iter hh hr hsmall hn F N fun I hI => krs_ind Inv (fun i m nx it h tk t => turn _ _ i m nx I it h tk t) done h0 fun p hp => Nat.ne_of_lt (hI p hp)
end
end
section
set_option maxRecDepth 100000
set_option maxHeartbeats 8000000
noncomputable def codeAt (cts : List Int) : Nat → Int
  | 0 => 0
  | k + 1 => (codeAt cts k + cts.getD k 0) * 2
noncomputable def placeAt (cts : List Int) : Nat → Int
  | 0 => 0
  | k + 1 => placeAt cts k + cts.getD k 0
noncomputable def rowAt (cts : List Int) (k : Nat) : Int × Int × Int := (codeAt cts k, cts.getD k 0, placeAt cts k)
noncomputable def row3D (r : Int × Int × Int) : Dat := .tuple [.int r.1, .int r.2.1, .int r.2.2]
noncomputable def rowsTo (cts : List Int) (n : Nat) : List (Int × Int × Int) := (List.range n).map (rowAt cts)
theorem rowsTo_succ (cts : List Int) (n : Nat) : rowsTo cts (n + 1) = rowsTo cts n ++ [rowAt cts n] := by simp [rowsTo, List.range_succ]
theorem codeAt_bd {cts : List Int} (h : ∀ k, 0 ≤ cts.getD k 0 ∧ cts.getD k 0 ≤ 60) : ∀ k, 0 ≤ codeAt cts k ∧ codeAt cts k ≤ 120 * (2 ^ k - 1)
  | 0 => by simp [codeAt]
  | k + 1 => by
    have := codeAt_bd h k
    have := h k
    rw [codeAt, Int.pow_succ]
    have : (0 : Int) ≤ 2 ^ k := Int.pow_nonneg (by decide)
    omega

noncomputable abbrev cRows : Con (List Int) where
  Rel := fun news vs d => ∃ v, vs = [v] ∧ DatIn news v (.tuple (d.map .int))
  Ok := fun d => d.length = 16 ∧ (∀ k, 0 ≤ d.getD k 0 ∧ d.getD k 0 ≤ 60) ∧ ∀ k, k < 16 → 0 < d.getD k 0 → codeAt d k + d.getD k 0 < 2 ^ (k + 1)
  size := 4
  Out := fun news r d => DatIn news r (.list ((rowsTo d 16).map row3D))
theorem rows_tells (w : World) (mean mg mb) : TX w mean mg mb 104 cRows := by
  unfold TX; k_fill
  intro d dp un gd cn cs a ccd cl outer A₀ base h₀ L m news s vs Q E B F X N T hk hR hok hd hu hret
  dsimp only [cRows] at hR hok hd hu hret
  obtain ⟨v, rfl, hR⟩ := hR
  cases hR
  rename_i lc us nc hlc hDc
  obtain ⟨hok1, hok2, hok3⟩ := hok
  have ks0 : KS "pyIter ref" := ⟨⟩; have ks1 : KS "InvEndG" := ⟨⟩; have ks2 : KS "call builtin:len" := ⟨⟩; have ks3 : KS "subscriptTail" := ⟨⟩
  have kM := kdMark
  have kM2 := kstMark
  have hcL := cLine_is
  have hul : us.length = 16 := by have := hDc.length; rw [List.length_map] at this; omega
  refine wpAny_call ?_
  k_dflt ktr_enter
  refine tok_in (g := s.gens) (d := s.drawn) (o := s.os) fun tk1 => ?_
  k_steps
  rename_i g1 L1 h1 FG1 B1 X1 T1 l1 h2 lt1 h3 tk2 D1 h4 ltD h5 h6 h7 F1 N1
  unfold Stop
  refine len_tup N1 (List.mem_cons_of_mem _ (List.mem_cons_of_mem _ hlc)) hul (by decide) ?_
  k_steps
  rename_i F0 N0 h8 tk8 t8 u8 v8 hRg F2 N2 keep2
  clear F0 N0
  unfold Stop
  with_unfolding_all refine' for_step (n := 16) (σ := List Value × List (Int × Int × Int) × Nat × Int × Tok × Int × Tok) (fun c => [(l1, listOf c.1.toArray c.2.2.1)]) ((D1, { cls := Value.type "tuple", data := Data.seq #[Value.int 0 tk2, Value.int 0 (tk2 + 1)] }) :: news) (fun c => [(Str.ofString "place", .int c.2.2.2.2.2.1 c.2.2.2.2.2.2), (Str.ofString "code", .int c.2.2.2.1 c.2.2.2.2.1)]) (fun L9 c => DatAll L9 c.1 (c.2.1.map row3D)) [Str.ofString "many"] (fun pre c => c.2.1 = rowsTo d pre.length ∧ c.2.2.2.1 = codeAt d pre.length ∧ c.2.2.2.2.2.1 = placeAt d pre.length) (l1 :: D1 :: news.map (·.1)) ([], [], 0, 0, tk2, 0, tk2 + 1) rfl (by assumption) ?small ?size F2 N2 ?sub (fun _ => rfl) DatAll.nil ?kk ⟨rfl, rfl, rfl⟩ ?turn ?done
  case small => decide
  case size => decide
  case sub =>
    intro p hp
    simp only [List.cons_append, List.nil_append, List.append_nil, List.mem_cons] at hp ⊢
    rcases hp with hp | hp | hp <;> first | (subst hp; k_mem) | k_mem | simp [hp]
  case kk => kst_all
  case turn =>
    rintro sx Q1 ⟨cv, cr, cn, code, tc, place, tp⟩ tl pre k t u h tk own hk' hlt hS hO hf hp F3 N3
    dsimp only at hf hp F3 N3
    simp only [List.nil_append, List.cons_append, kstB] at F3 N3
    obtain ⟨hp1, hp2, hp3⟩ := hp
    obtain ⟨many, hmany, hm0, hm1⟩ : ∃ many, d.getD pre.length 0 = many ∧ 0 ≤ many ∧ many ≤ 60 := ⟨_, rfl, (hok2 _).1, (hok2 _).2⟩
    obtain ⟨tm, hitem⟩ : ∃ tm, us[(k - 1).toNat]? = some (.int many tm) := by
      have e1 : (k - 1).toNat = pre.length := by omega
      have hj : pre.length < d.length := by omega
      obtain ⟨v', hv', hD⟩ := hDc.get (k := pre.length) (by simpa using hj)
      have e : (d.map Dat.int)[pre.length]'(by simpa using hj) = .int many := by
        rw [List.getElem_map, ← hmany, getD_get hj]
      rw [e] at hD
      cases hD
      exact ⟨_, e1 ▸ hv'⟩
    have hcb := codeAt_bd hok2 pre.length
    have hraise := hok3 pre.length hlt
    rw [hmany] at hraise
    rw [← hp2] at hcb hraise
    have hcz : cv.toArray.size ≤ sizeLine := by
      have h1 := hf.length
      rw [List.length_map, hp1, rowsTo, List.length_map, List.length_range] at h1
      rw [List.size_toArray, sizeLine_eq]
      omega
    k_steps
    unfold Stop
    refine item_tup N3 hitem (List.mem_cons_of_mem _ (List.mem_cons_of_mem _ (List.mem_append_left _ hlc))) (by omega) (by omega) ?_
    dsimp only
    k_steps
    · rename_i q1 q2
      exfalso
      have e1 : k.toNat = pre.length + 1 := by omega
      rw [e1] at q1
      have := hraise q2
      omega
    all_goals
      rename_i FB NB
      unfold Stop
      rw [List.push_toArray] at NB
      refine end_one (cv ++ [Value.ref _], cr ++ [(code, many, place)], cn + 1, (code + many) * 2, _, place + many, _) [(_, _)] hS (fun _ => ⟨_, rfl⟩) rfl FB NB ?_ (by kst_all) ?_ ?_ ?_
      · simp only [List.forall_mem_cons, List.not_mem_nil, false_implies, implies_true, and_true]
        assumption
      · kst_same
      · show DatAll _ _ (List.map row3D (cr ++ [_]))
        rw [List.map_append]
        refine DatAll.append (hf.mono ?_) (DatAll.one (.tuple (vs := [_, _, _]) (n := 0) (List.mem_append_right _ (List.mem_append_left _ List.mem_cons_self)) (.cons (.int _ _) (.cons (.int _ _) (.cons (.int _ _) .nil)))))
        intro p hp
        simp only [List.mem_append, List.mem_cons] at hp ⊢
        rcases hp with hp | hp <;> first | (subst hp; k_mem) | k_mem | simp [hp]
      · dsimp only
        rw [List.length_append, List.length_singleton, rowsTo_succ, ← hp1]
        refine ⟨?_, ?_, ?_⟩
        · rw [rowAt, ← hp2, ← hp3, hmany]
        · rw [codeAt, ← hp2, hmany]
        · rw [placeAt, ← hp3, hmany]
  case done =>
    rintro ⟨cv, cr, cn, code, tc, place, tp⟩ tl u h tk hO hf hp F3 N3
    dsimp only at hf hp F3 N3
    simp only [List.nil_append, List.cons_append, kstB] at F3 N3
    rw [stepKs_length] at hp
    k_steps
    refine hret _ ((l1, listOf cv.toArray cn) :: (D1, { cls := Value.type "tuple", data := Data.seq #[Value.int 0 tk2, Value.int 0 (tk2 + 1)] }) :: tl) _ _ (by k_asm) (fun p hp => ?_) ?_ ?_
    · rename_i kF kN _ _
      refine kN p ?_
      simp only [List.mem_append, List.mem_cons] at hp ⊢
      rcases hp with hp | hp | hp | hp <;> first | (subst hp; k_mem) | k_mem | simp [hp]
    · intro p hp b hb
      obtain ⟨q, hq, rfl⟩ := List.mem_map.mp hb
      rcases List.mem_cons.mp hp with rfl | hp
      · exact Nat.ne_of_gt (lt1 q hq)
      · rcases List.mem_cons.mp hp with rfl | hp
        · exact Nat.ne_of_gt (tb_ltOf ltD.2 q hq)
        · exact hO p hp _ (List.mem_cons_of_mem _ (List.mem_cons_of_mem _ hb))
    · refine .list (List.mem_append_right _ List.mem_cons_self) ?_
      rw [← hp.1]
      refine hf.mono fun p hp => ?_
      simp only [List.mem_append, List.mem_cons] at hp ⊢
      rcases hp with (hp | hp) | hp <;> first | (subst hp; k_mem) | k_mem | simp [hp]
end
section
set_option maxRecDepth 100000
theorem placeAt_sum (cts : List Int) : ∀ n, placeAt cts n = (cts.take n).sum
  | 0 => by simp [placeAt]
  | n + 1 => by
    rw [placeAt, placeAt_sum cts n]
    by_cases h : n < cts.length
    · rw [List.take_add_one, List.getElem?_eq_getElem h, getD_get h]
      simp only [Option.toList_some, List.sum_append, List.sum_cons, List.sum_nil, Int.add_zero]
    · rw [List.take_of_length_le (by omega), List.take_of_length_le (by omega)]
      simp [List.getD, show cts[n]? = none from List.getElem?_eq_none (by omega)]
theorem placeAt_mono {cts : List Int} (h : ∀ k, 0 ≤ cts.getD k 0) {i : Nat} : ∀ {j}, i ≤ j → placeAt cts i ≤ placeAt cts j
  | 0, e => by rw [Nat.le_zero.mp e]; exact Int.le_refl _
  | j + 1, e => by
    rcases Nat.lt_or_ge j i with h1 | h1
    · have : i = j + 1 := by omega
      rw [this]; exact Int.le_refl _
    · have := placeAt_mono h h1
      have := h j
      rw [placeAt]; omega
noncomputable def codesTo (cts sys : List Int) : Nat → List (Int × Int)
  | 0 => []
  | j + 1 => codesTo cts sys j ++ ((sys.drop (placeAt cts j).toNat).take (cts.getD j 0).toNat).map fun s => (s, ((j + 1 : Nat) : Int))
noncomputable def codesPart (cts sys : List Int) (j i : Nat) : List (Int × Int) := codesTo cts sys j ++ ((sys.drop (placeAt cts j).toNat).take i).map fun s => (s, ((j + 1 : Nat) : Int))
theorem codesTo_keys {cts sys : List Int} (h : ∀ k, 0 ≤ cts.getD k 0) : ∀ j, (codesTo cts sys j).map (·.1) = sys.take (placeAt cts j).toNat
  | 0 => by simp [codesTo, placeAt]
  | j + 1 => by
    have h1 := placeAt_mono h (Nat.zero_le j)
    have h2 := h j
    rw [placeAt] at h1
    have e : (placeAt cts (j + 1)).toNat = (placeAt cts j).toNat + (cts.getD j 0).toNat := by rw [placeAt]; omega
    rw [codesTo, List.map_append, codesTo_keys h j, List.map_map, e, List.take_add]
    congr 1
    simp [Function.comp_def]
theorem codesPart_keys {cts sys : List Int} (h : ∀ k, 0 ≤ cts.getD k 0) (j i : Nat) : (codesPart cts sys j i).map (·.1) = sys.take ((placeAt cts j).toNat + i) := by
  rw [codesPart, List.map_append, codesTo_keys h j, List.map_map, List.take_add]
  congr 1
  simp [Function.comp_def]
theorem codesPart_succ {cts sys : List Int} {j i : Nat} (h : (placeAt cts j).toNat + i < sys.length) : codesPart cts sys j (i + 1) = codesPart cts sys j i ++ [(sys[(placeAt cts j).toNat + i], ((j + 1 : Nat) : Int))] := by
  have e : (sys.drop (placeAt cts j).toNat)[i]? = some sys[(placeAt cts j).toNat + i] := by rw [List.getElem?_drop, List.getElem?_eq_getElem h]
  rw [codesPart, codesPart, List.take_add_one, e, List.append_assoc, List.map_append]
  rfl
/-- the dict of the codes, item by item -/
inductive CodePairs (L9 : List (Addr × Obj)) : List (Int × Value) → List (Int × Int) → Prop
  | nil : CodePairs L9 [] []
  | cons {a : Addr} {k b z : Int} {t u : Tok} {n : Nat} {kvs : List (Int × Value)} {es : List (Int × Int)} : (a, ({ cls := .type "tuple", data := .seq (List.toArray [.int b t, .int z u]) n } : Obj)) ∈ L9 → CodePairs L9 kvs es → CodePairs L9 ((k, .ref a) :: kvs) ((k, z) :: es)
theorem CodePairs.mono {L9 L8 : List (Addr × Obj)} (hs : ∀ p ∈ L9, p ∈ L8) : ∀ {kvs : List (Int × Value)} {es : List (Int × Int)}, CodePairs L9 kvs es → CodePairs L8 kvs es
  | _, _, .nil => .nil
  | _, _, .cons h r => .cons (hs _ h) (r.mono hs)
theorem CodePairs.keys {L9 : List (Addr × Obj)} : ∀ {kvs : List (Int × Value)} {es : List (Int × Int)}, CodePairs L9 kvs es → kvs.map (·.1) = es.map (·.1)
  | _, _, .nil => rfl
  | _, _, .cons h r => by simp [r.keys]
theorem CodePairs.append {L9 : List (Addr × Obj)} {kvs' : List (Int × Value)} {es' : List (Int × Int)} (h2 : CodePairs L9 kvs' es') : ∀ {kvs : List (Int × Value)} {es : List (Int × Int)}, CodePairs L9 kvs es → CodePairs L9 (kvs ++ kvs') (es ++ es')
  | _, _, .nil => h2
  | _, _, .cons h r => .cons h (CodePairs.append h2 r)
theorem CodePairs.append' {L9 : List (Addr × Obj)} {kvs kvs' : List (Int × Value)} {es es' : List (Int × Int)} (h : CodePairs L9 kvs es) (h2 : CodePairs L9 kvs' es') : CodePairs L9 (kvs ++ kvs') (es ++ es') := CodePairs.append h2 h
theorem CodePairs.at {L9 : List (Addr × Obj)} {k z : Int} : ∀ {kvs : List (Int × Value)} {es : List (Int × Int)}, CodePairs L9 kvs es → (es.map (·.1)).Nodup → (k, z) ∈ es → ∃ (a : Addr) (b : Int) (t u : Tok) (n : Nat), valueAt kvs k = some (.ref a) ∧ (a, ({ cls := .type "tuple", data := .seq (List.toArray [.int b t, .int z u]) n } : Obj)) ∈ L9
  | _, _, .nil, _, h => nomatch h
  | _, _, .cons (a := a) (k := k') h r, hn, hm => by
    simp only [List.map_cons, List.nodup_cons] at hn
    rcases List.mem_cons.mp hm with e | hm
    · obtain ⟨rfl, rfl⟩ := Prod.mk.inj e
      exact ⟨_, _, _, _, _, by simp [valueAt], h⟩
    · obtain ⟨a2, b2, t2, u2, n2, q1, q2⟩ := r.at hn.2 hm
      have hne : k' ≠ k := fun e => hn.1 (e ▸ List.mem_map.mpr ⟨_, hm, rfl⟩)
      refine ⟨a2, b2, t2, u2, n2, ?_, q2⟩
      rw [← q1]
      simp [valueAt, hne]
theorem stored_new {kvs : List (Int × Value)} {k : Int} {v : Value} (h : k ∉ kvs.map (·.1)) : stored kvs k v = kvs ++ [(k, v)] := by
  unfold stored
  have : kvs.any (fun kv => decide (kv.1 = k)) = false := by
    rw [List.any_eq_false]
    intro kv hkv e
    exact h (List.mem_map.mpr ⟨kv, hkv, by simpa using e⟩)
  rw [this]; rfl
theorem m_as {m : Str → Option Value} {a : Str} {v : Option Value} (h : m a = v) : m = fun y => if y = a then v else m y := by
  funext y
  by_cases e : y = a
  · rw [if_pos e, e, h]
  · rw [if_neg e]
theorem fr_as {h₀ h : Heap} {L : Addr} {m : Str → Option Value} {a : Str} {v : Option Value} (F : Fr h₀ L h m) (e : m a = v) : Fr h₀ L h (fun y => if y = a then v else m y) := by
  rw [← m_as e]; exact F
end
section
set_option maxRecDepth 100000
set_option maxHeartbeats 8000000

noncomputable abbrev huffEs (w : World) (t1 t2 t3 t4 : Tok) (lc ls lr cd : Addr) : List DictEntry :=
  [{ hash := PyData.keyHash w.params (Str.ofString "counts"), key := .str (Str.ofString "counts") t1, val := .ref lc }, { hash := PyData.keyHash w.params (Str.ofString "symbols"), key := .str (Str.ofString "symbols") t2, val := .ref ls },
   { hash := PyData.keyHash w.params (Str.ofString "rows"), key := .str (Str.ofString "rows") t3, val := .ref lr }, { hash := PyData.keyHash w.params (Str.ofString "codes"), key := .str (Str.ofString "codes") t4, val := .ref cd }]
noncomputable def TableIn (w : World) (news : List (Addr × Obj)) (v : Value) (es : List (Int × Int)) : Prop :=
  ∃ (x dx cd : Addr) (o : Obj) (kvs : List (Int × Value)) (t1 t2 t3 t4 : Tok) (lc ls lr : Addr), v = .ref x ∧ (x, instObj 142 dx) ∈ news ∧ (dx, dictOf (huffEs w t1 t2 t3 t4 lc ls lr cd) 4) ∈ news ∧ (cd == sysModules) = false ∧ (cd, o) ∈ news ∧
    o.IsDictOf (intKind PySem.Challenge.rw_nt0548_01.row.prog w) kvs ∧ CodePairs news kvs es
noncomputable abbrev cHuff (w : World) : Con (List Int × List Int) where
  Rel := fun news vs d => ∃ v v', vs = [v, v'] ∧ DatIn news v (.tuple (d.1.map .int)) ∧ DatIn news v' (.tuple (d.2.map .int))
  Ok := fun d => cCheck.Ok d ∧ cRows.Ok d.1
  size := 20
  Out := fun news r d => TableIn w news r (codesTo d.1 d.2 16)
section
variable (w : World) (cts sys : List Int) (x dx cd lc ls lr : Addr) (t1 t2 t3 t4 : Tok) (R2 : List (Addr × Obj))
noncomputable def offH : List Addr := cd :: x :: dx :: R2.map (·.1)
variable {x dx cd R2} in
theorem offH_lt {D : Addr} (h : AllLt D ((cd, instObj 142 dx) :: (x, instObj 142 dx) :: (dx, instObj 142 dx) :: R2)) : ∀ b ∈ offH x dx cd R2, D ≠ b := off_of_lt h
inductive HuffI (i : Nat) (m : Str → Option Value) (nx : List (Addr × Obj)) : Prop
  | mk (o : Obj) (kvs : List (Int × Value)) (tl : List (Addr × Obj)) (e : nx = (cd, o) :: (x, instObj 142 dx) :: (dx, dictOf (huffEs w t1 t2 t3 t4 lc ls lr cd) 4) :: (R2 ++ tl)) (own : OwnOff tl (offH x dx cd R2)) (ho : o.IsDictOf (intKind PySem.Challenge.rw_nt0548_01.row.prog w) kvs)
      (hc : CodePairs tl kvs (codesTo cts sys i)) (hm : m (Str.ofString "self") = some (.ref x)) : HuffI i m nx
variable (I : Addr) (it : Obj) (i : Nat) (size first place : Int) (t tf tp : Tok)
inductive HuffJ (j : Nat) (m : Str → Option Value) (nx : List (Addr × Obj)) : Prop
  | mk (o : Obj) (kvs : List (Int × Value)) (tl : List (Addr × Obj)) (e : nx = (I, it) :: (cd, o) :: (x, instObj 142 dx) :: (dx, dictOf (huffEs w t1 t2 t3 t4 lc ls lr cd) 4) :: (R2 ++ tl)) (own : OwnOff tl (offH x dx cd R2)) (hI : ∀ p ∈ tl, p.1 ≠ I) (ho : o.IsDictOf (intKind PySem.Challenge.rw_nt0548_01.row.prog w) kvs)
      (hc : CodePairs tl kvs (codesPart cts sys i j)) (h1 : m (Str.ofString "self") = some (.ref x)) (h2 : m (Str.ofString "size") = some (.int size t)) (h3 : m (Str.ofString "first") = some (.int first tf)) (h4 : m (Str.ofString "place") = some (.int place tp)) : HuffJ j m nx
end
theorem huff_tells (w : World) (mean mg mb) : TX w mean mg mb 142 (cHuff w) := by
  unfold TX; k_fill
  intro d dp un gd cn cs a ccd cl outer A₀ base h₀ L m news s vs Q E B F X N T hk hR hok hd hu hret
  obtain ⟨cts, sys⟩ := d
  dsimp only [cHuff] at hR hok hd hu hret
  obtain ⟨v, v', rfl, hR1, hR2⟩ := hR
  obtain ⟨hok1, hok2⟩ := hok
  have ks0 : KS "pyIter ref" := ⟨⟩; have ks1 : KS "call type:tuple" := ⟨⟩; have ks2 : KS "InvEndG" := ⟨⟩; have ks3 : KS "call ref" := ⟨⟩; have ks4 : KS "exec For" := ⟨⟩; have ks5 : KS "subscriptTail" := ⟨⟩; have ks6 : KS "setItem" := ⟨⟩; have ks7 : KS "UnrEnd" := ⟨⟩
  have kM := kdMark
  have kM2 := kstMark
  have hcL := cLine_is
  k_dflt (refine' call_cls ?k1 ?k2 ?k3 ?k4 ?k5 ?k6 ?_; (case k1 => k_asm); (case k2 => k_asm); (case k3 => k_asm); (case k4 => k_is); (case k5 => k_is); (case k6 => k_is); k_whole; intro x dx h1 F1 N1 l1 l2)
  replace l2 := ltN l2
  k_dflt ktr_enter
  refine tok_in (g := s.gens) (d := s.drawn) (o := s.os) fun tk00 => ?_
  k_steps
  rename_i g1 L1 h2 FG1 F2 N2 B1 X1 T1
  unfold Stop
  refine tx_use (check_tells w mean mg mb) (cts, sys) B1 F2 X1 N2 T1 rfl ⟨_, _, rfl, hR1.mono fun p hp => List.mem_cons_of_mem _ (List.mem_cons_of_mem _ hp), hR2.mono fun p hp => List.mem_cons_of_mem _ (List.mem_cons_of_mem _ hp)⟩ hok1 (by show dp + 1 + 1 + 4 < recursionLimit; omega) (by show un + 1 + 3 + 8 * 4 < cLine; omega) ?_
  rintro r tlc h3 tk3 F3 N3 hO3 rfl
  clear F2 N2
  cases hR1
  rename_i lc us nc hlc hDc
  cases hR2
  rename_i ls zs ns hls hDs
  simp [List.lookup_cons, show (Str.ofString "symbols" == Str.ofString "counts") = false from by decide, show (Str.ofString "symbols" == Str.ofString "self") = false from by decide, show (Str.ofString "counts" == Str.ofString "self") = false from by decide] at F3
  obtain ⟨R, hR⟩ : ∃ R, R = news ++ tlc := ⟨_, rfl⟩
  have hRn : ∀ p ∈ news, p ∈ R := fun p hp => hR ▸ List.mem_append_left _ hp
  have hRx : ∀ p ∈ R, p.1 ≠ x := by
    exact hR ▸ alla (fun p hp => Nat.ne_of_lt (Nat.lt_trans (l1 p hp) l2)) fun p hp => hO3 p hp x (by k_mem)
  have hRd : ∀ p ∈ R, p.1 ≠ dx := by
    exact hR ▸ alla (fun p hp => Nat.ne_of_lt (l1 p hp)) fun p hp => hO3 p hp dx (by k_mem)
  simp only [List.cons_append] at N3
  rw [← hR] at N3
  have hlcR := hRn _ hlc
  have hlsR := hRn _ hls
  dsimp only
  k_steps
  unfold Stop
  refine call_tuple_tup (items := us.toArray) ⟨_, (N3 _ (List.mem_cons_of_mem _ (List.mem_cons_of_mem _ hlcR))).1, rfl, nc, rfl⟩ ?_
  k_steps
  unfold Stop
  rename_i F4 N4
  refine call_tuple_tup (items := zs.toArray) ⟨_, (N4 _ (List.mem_cons_of_mem _ (List.mem_cons_of_mem _ hlsR))).1, rfl, ns, rfl⟩ ?_
  k_steps
  rename_i _ _ _ F5 N5
  unfold Stop
  refine tx_use (rows_tells w mean mg mb) cts B1 F5 X1 N5 T1 rfl ⟨_, rfl, .tuple (List.mem_cons_of_mem _ (List.mem_cons_of_mem _ hlcR)) (hDc.mono fun p hp => List.mem_cons_of_mem _ (List.mem_cons_of_mem _ (hRn p hp)))⟩ hok2 (by show dp + 1 + 1 + 4 < recursionLimit; omega) (by show un + 1 + 3 + 8 * 4 < cLine; omega) ?_
  rintro r tlr h6 tk6 F6 N6 hO6 hDr
  clear F5 N5
  cases hDr
  rename_i lr rv nr hlr hDr
  obtain ⟨R2, hR2⟩ : ∃ R2, R2 = R ++ tlr := ⟨_, rfl⟩
  have hR2R : ∀ p ∈ R, p ∈ R2 := fun p hp => hR2 ▸ List.mem_append_left _ hp
  have hRx : ∀ p ∈ R2, p.1 ≠ x := by
    exact hR2 ▸ alla hRx fun p hp => hO6 p hp x (by k_mem)
  have hRd : ∀ p ∈ R2, p.1 ≠ dx := by
    exact hR2 ▸ alla hRd fun p hp => hO6 p hp dx (by k_mem)
  simp only [List.cons_append] at N6 hlr hDr
  rw [← hR2] at N6 hlr hDr
  have hlrR : (lr, listOf rv.toArray nr) ∈ R2 := by
    rcases List.mem_cons.mp hlr with e | hlr
    · exact absurd (congrArg (fun p => p.2.cls) e) (by simp [W.listOf, instObj])
    · rcases List.mem_cons.mp hlr with e | hlr
      · exact absurd (congrArg (fun p => p.2.cls) e) (by simp [W.listOf, dictOf])
      · exact hlr
  have hDr2 : DatAll R2 rv ((rowsTo cts 16).map row3D) := datAll_seq (fun p hp hc => by
    rcases List.mem_cons.mp hp with e | hp
    · rw [e] at hc; simp [instObj] at hc
    · rcases List.mem_cons.mp hp with e | hp
      · rw [e] at hc; simp [dictOf] at hc
      · exact hp) hDr
  clear hDr hlr
  dsimp only
  k_steps
  rename_i cd hA oc loc _ _ hic _ ltc hB FB NB hC tkC tC uC vC hRg FC NC keepC
  clear FB NB
  unfold Stop
  obtain ⟨t1, t2, t3, t4, ND⟩ : ∃ t1 t2 t3 t4, News g1 L1 hC ((cd, oc) :: (x, instObj 142 dx) :: (dx, dictOf (huffEs w t1 t2 t3 t4 lc ls lr cd) 4) :: R2) := ⟨_, _, _, _, NC⟩
  clear NC
  replace FC := fr_as FC (a := Str.ofString "self") (v := some (.ref x)) rfl
  refine for_range (n := 16) (HuffI w cts sys x dx cd lc ls lr t1 t2 t3 t4 R2)
    rfl hRg (by decide) (by decide) FC ND ⟨oc, [], [], by rw [List.append_nil], (fun _ h => nomatch h), hic, .nil, rfl⟩ ?turn ?done
  case turn =>
    clear FC ND
    rintro sx Q1 i m nx I it h tk t hi ⟨o, kvs, tl, rfl, hOtl, ho, hcp, hm⟩ hIo hc F7 N7
    have F8 := fr_as F7 (a := Str.ofString "self") (v := some (.ref x)) hm
    clear F7
    obtain ⟨size, hsize⟩ : ∃ size : Int, 1 + (i : Int) * 1 = size := ⟨_, rfl⟩
    rw [hsize] at F8
    obtain ⟨first, hfirst⟩ : ∃ first, codeAt cts i = first := ⟨_, rfl⟩
    obtain ⟨many, hmany, hm0, hm1⟩ : ∃ many, cts.getD i 0 = many ∧ 0 ≤ many ∧ many ≤ 60 := ⟨_, rfl, (hok2.2.1 _).1, (hok2.2.1 _).2⟩
    obtain ⟨place, hplace⟩ : ∃ place, placeAt cts i = place := ⟨_, rfl⟩
    obtain ⟨ra, tf, tm, tp, rn, hra, hrm⟩ : ∃ (ra : Addr) (tf tm tp : Tok) (rn : Nat), rv[(size - 1).toNat]? = some (.ref ra) ∧ (ra, ({ cls := .type "tuple", data := .seq (List.toArray [.int first tf, .int many tm, .int place tp]) rn } : Obj)) ∈ R2 := by
      have e1 : (size - 1).toNat = i := by omega
      have hj : i < (rowsTo cts 16).length := by simpa [rowsTo] using hi
      obtain ⟨v', hv', hD⟩ := hDr2.get (k := i) (by simpa using hj)
      have e : ((rowsTo cts 16).map row3D)[i]'(by simpa using hj) = row3D (first, many, place) := by
        simp only [rowsTo, List.getElem_map, List.getElem_range, rowAt, hfirst, hmany, hplace]
      rw [e] at hD
      cases hD with
      | tuple hm hr =>
        cases hr with
        | cons h1 hr =>
          cases hr with
          | cons h2 hr =>
            cases hr with
            | cons h3 hr =>
              cases hr
              cases h1
              cases h2
              cases h3
              exact ⟨_, _, _, _, _, e1 ▸ hv', hm⟩
    have hrm2 : (ra, ({ cls := .type "tuple", data := .seq (List.toArray [.int first tf, .int many tm, .int place tp]) rn } : Obj)) ∈ R2 ++ tl := List.mem_append_left _ hrm
    k_steps
    unfold Stop
    refine item_at N7 hra (List.mem_cons_of_mem _ (List.mem_cons_of_mem _ (List.mem_cons_of_mem _ (List.mem_cons_of_mem _ (List.mem_append_left _ hlrR))))) (by omega) (by omega) ?_
    k_steps
    rename_i hB9 FB9 NB9 _ _ _ FE NE hF tkF tF uF vF hRg2 FF NF keepF
    clear FB9 NB9 FE NE
    unfold Stop
    have hpl : place + many ≤ sys.length := by
      have h1 := placeAt_mono (cts := cts) (fun k => (hok2.2.1 k).1) (show i + 1 ≤ 16 by omega)
      rw [placeAt, hplace, hmany, placeAt_sum cts 16, List.take_of_length_le (by have := hok2.1; omega), hok1.2.2.1] at h1
      exact h1
    have hpl0 : 0 ≤ place := by
      have h1 := placeAt_mono (cts := cts) (fun k => (hok2.2.1 k).1) (Nat.zero_le i)
      rw [hplace] at h1
      exact h1
    refine for_range (n := many.toNat) (HuffJ w cts sys x dx cd lc ls lr t1 t2 t3 t4 R2 I it i size first place t tf tp)
      rfl hRg2 (small_step (by decide) (by decide) (by omega) (by omega)) (by rw [rangeSize_one]; split <;> omega) FF NF ⟨o, kvs, tl, rfl, hOtl, (fun p hp => hIo p (List.mem_cons_of_mem _ (List.mem_cons_of_mem _ (List.mem_cons_of_mem _ (List.mem_append_right _ hp))))), ho, by rw [codesPart, List.take_zero, List.map_nil, List.append_nil]; exact hcp, rfl, rfl, rfl, rfl⟩ ?turn2 ?done2
    case turn2 =>
      clear FF NF hOtl ho hcp
      rintro sy Q2 j m2 nx I2 it2 h2 tk2 t9 hj ⟨o, kvs, tl, rfl, hOtl, htlI, ho, hcp, hm1, hm2, hm3, hm4⟩ hIo2 hc2 F9 N9
      have F10 := fr_as (fr_as (fr_as (fr_as F9 (a := Str.ofString "self") (v := some (.ref x)) hm1) (a := Str.ofString "size") (v := some (.int size t)) hm2) (a := Str.ofString "first") (v := some (.int first tf)) hm3) (a := Str.ofString "place") (v := some (.int place tp)) hm4
      clear F9
      obtain ⟨kk, hkk⟩ : ∃ kk : Int, 0 + (j : Int) * 1 = kk := ⟨_, rfl⟩
      rw [hkk] at F10
      have hjm : (j : Int) < many := by omega
      have hpj : (placeAt cts i).toNat + j < sys.length := by rw [hplace]; omega
      obtain ⟨sy, hsy⟩ : ∃ sy, sys[(placeAt cts i).toNat + j] = sy := ⟨_, rfl⟩
      obtain ⟨tS, hitem⟩ : ∃ tS, zs[(place + kk).toNat]? = some (.int sy tS) := by
        have e1 : (place + kk).toNat = (placeAt cts i).toNat + j := by rw [hplace]; omega
        obtain ⟨v', hv', hD⟩ := hDs.get (k := (placeAt cts i).toNat + j) (by simpa using hpj)
        have e : (sys.map Dat.int)[(placeAt cts i).toNat + j]'(by simpa using hpj) = .int sy := by rw [List.getElem_map, hsy]
        rw [e] at hD
        cases hD
        exact ⟨_, e1 ▸ hv'⟩
      have hes := codesPart_keys (cts := cts) (sys := sys) (fun k => (hok2.2.1 k).1) i j
      have hnew : sy ∉ kvs.map (·.1) := by
        rw [hcp.keys, hes, ← hsy]
        intro hmem
        obtain ⟨q, hq, e⟩ := List.mem_take_iff_getElem.mp hmem
        exact List.pairwise_iff_getElem.mp hok1.2.2.2.2 q _ (by omega) hpj (by omega) e
      have hkl : kvs.length ≤ sizeLine := by
        have h1 : kvs.length = (kvs.map (·.1)).length := by simp
        rw [h1, hcp.keys, hes, List.length_take, sizeLine_eq]
        have := hok1.2.2.2.1
        omega
      have hls9 : (ls, ({ cls := .type "tuple", data := .seq zs.toArray ns } : Obj)) ∈ R2 ++ tl := List.mem_append_left _ (hR2R _ hlsR)
      have hsz2 : size = ((i + 1 : Nat) : Int) := by omega
      k_steps
      rename_i D1 h9 F11 N11 lt9
      unfold Stop
      refine item_tup N11 hitem (List.mem_cons_of_mem _ (List.mem_cons_of_mem _ (List.mem_cons_of_mem _ (List.mem_cons_of_mem _ (List.mem_cons_of_mem _ (List.mem_cons_of_mem _ hls9)))))) (by omega) (by omega) ?_
      dsimp only
      k_steps
      unfold Stop
      have hcdx : ∀ p ∈ (x, instObj 142 dx) :: (dx, dictOf (huffEs w t1 t2 t3 t4 lc ls lr cd) 4) :: (R2 ++ tl), p.1 ≠ cd := by
        exact allc (Nat.ne_of_lt ltc.1) (allc (Nat.ne_of_lt ltc.2.1) (alla (fun p hp => Nat.ne_of_lt (tb_ltOf ltc.2.2 p hp)) fun p hp => hOtl p hp cd List.mem_cons_self))
      refine dict_set (own := [(D1, _), (I2, it2), (I, it)]) F11 N11 ?_ hcdx ho hkl ?_
      · exact allc (Nat.ne_of_gt lt9.2.2.1) (allc (hIo2 (cd, o) (List.mem_cons_of_mem _ List.mem_cons_self)).symm (allc (hIo (cd, _) List.mem_cons_self).symm alln))
      intro hG oG FG9 NG hoG
      rw [stored_new hnew] at hoG
      k_steps
      unfold Stop
      refine ⟨_, _, _, (I, it) :: (cd, oG) :: (x, instObj 142 dx) :: (dx, dictOf (huffEs w t1 t2 t3 t4 lc ls lr cd) 4) :: (R2 ++ ((D1, { cls := Value.type "tuple", data := Data.seq #[Value.int (first + kk) tk2, Value.int size t] }) :: tl)), rfl, FG9, nsub NG ?_, ?_, oG, kvs ++ [(sy, Value.ref D1)], _, rfl, ?_, ?_, hoG, ?_, rfl, rfl, rfl, rfl⟩
      · refine alla (allc (by k_mem) alln) ?_
        exact allc (by k_mem) (allc (by k_mem) (allc (by k_mem) (allc (by k_mem) (alla (fun p hp => by k_mem) (allc (by k_mem) fun p hp => by k_mem)))))
      · exact allc (hIo2 (I, it) (by k_mem)) (allc (hIo2 (cd, o) (by k_mem)) (allc (hIo2 (x, instObj 142 dx) (by k_mem)) (allc (hIo2 (dx, dictOf (huffEs w t1 t2 t3 t4 lc ls lr cd) 4) (by k_mem)) (alla (fun p hp => hIo2 p (by k_mem)) (allc (Nat.ne_of_gt lt9.1) fun p hp => hIo2 p (by k_mem))))))
      · exact allc (offH_lt ⟨lt9.2.2.1, lt9.2.2.2.1, lt9.2.2.2.2.1, allLt_of fun p hp => tb_ltOf lt9.2.2.2.2.2 p (List.mem_append_left _ hp)⟩) hOtl
      · exact allc (Nat.ne_of_gt lt9.2.1) htlI
      · rw [codesPart_succ hpj, hsy, ← hsz2]
        exact (hcp.mono fun p hp => List.mem_cons_of_mem _ hp).append' (.cons (n := 0) List.mem_cons_self .nil)
    case done2 =>
      clear FF NF hOtl ho hcp
      rintro m2 nx h2 tk2 ⟨o, kvs, tl, rfl, hOtl, htlI, ho, hcp, hm1, hm2, hm3, hm4⟩ F9 N9
      k_steps
      unfold Stop
      refine ⟨_, _, _, (cd, o) :: (x, instObj 142 dx) :: (dx, dictOf (huffEs w t1 t2 t3 t4 lc ls lr cd) 4) :: (R2 ++ tl), rfl, F9, N9, ?_, o, kvs, tl, rfl, hOtl, ho, ?_, hm1⟩
      · exact allc (show @Ne Nat cd I from hIo (cd, _) List.mem_cons_self) (allc (hIo (x, instObj 142 dx) (by k_mem)) (allc (hIo (dx, dictOf (huffEs w t1 t2 t3 t4 lc ls lr cd) 4) (by k_mem)) (alla (fun p hp => hIo p (by k_mem)) htlI)))
      · have e : codesTo cts sys (i + 1) = codesPart cts sys i many.toNat := by rw [codesTo, codesPart, hmany]
        rw [e]
        exact hcp
  case done =>
    rintro m nx h tk ⟨o, kvs, tl, rfl, hOtl, ho, hcp, hm⟩ F7 N7
    k_steps
    rename_i kF kN _ _
    refine hret _ ((cd, o) :: (x, instObj 142 dx) :: (dx, dictOf (huffEs w t1 t2 t3 t4 lc ls lr cd) 4) :: (tlc ++ tlr ++ tl)) _ _ kF (nsub kN ?_) ?_ ?_
    · subst hR2; subst hR
      exact alla (fun p hp => List.mem_cons_of_mem _ (List.mem_cons_of_mem _ (List.mem_cons_of_mem _ (List.mem_append_left _ (List.mem_append_left _ (List.mem_append_left _ hp)))))) (allc (by k_mem) (allc (by k_mem) (allc (by k_mem) (alla (alla (fun p hp => List.mem_cons_of_mem _ (List.mem_cons_of_mem _ (List.mem_cons_of_mem _ (List.mem_append_left _ (List.mem_append_left _ (List.mem_append_right _ hp)))))) fun p hp => List.mem_cons_of_mem _ (List.mem_cons_of_mem _ (List.mem_cons_of_mem _ (List.mem_append_left _ (List.mem_append_right _ hp))))) fun p hp => by k_mem))))
    · have hq : ∀ b ∈ news.map (·.1), ∃ o, (b, o) ∈ news := fun b hb => addr_in hb
      refine allc (fun b hb => (hq b hb).elim fun o ho => Nat.ne_of_gt (tb_ltOf ltc.2.2 (b, o) (hR2R _ (hRn _ ho)))) (allc (fun b hb => (hq b hb).elim fun o ho => (hRx (b, o) (hR2R _ (hRn _ ho))).symm) (allc (fun b hb => (hq b hb).elim fun o ho => (hRd (b, o) (hR2R _ (hRn _ ho))).symm) (alla (alla ?_ ?_) ?_)))
      · exact fun p hp b hb => (hq b hb).elim fun o ho => hO3 p hp b (List.mem_map.mpr ⟨(b, o), List.mem_cons_of_mem _ (List.mem_cons_of_mem _ ho), rfl⟩)
      · exact fun p hp b hb => (hq b hb).elim fun o ho => hO6 p hp b (List.mem_map.mpr ⟨(b, o), List.mem_cons_of_mem _ (List.mem_cons_of_mem _ (hRn _ ho)), rfl⟩)
      · exact fun p hp b hb => (hq b hb).elim fun o ho => hOtl p hp b (List.mem_cons_of_mem _ (List.mem_cons_of_mem _ (List.mem_cons_of_mem _ (List.mem_map.mpr ⟨(b, o), hR2R _ (hRn _ ho), rfl⟩))))
    · refine ⟨x, dx, cd, o, kvs, t1, t2, t3, t4, lc, ls, lr, rfl, List.mem_append_right _ (by k_mem), List.mem_append_right _ (by k_mem), loc, List.mem_append_right _ (by k_mem), ho, hcp.mono fun p hp => List.mem_append_right _ (List.mem_cons_of_mem _ (List.mem_cons_of_mem _ (List.mem_cons_of_mem _ (List.mem_append_right _ hp))))⟩
end
section
set_option maxRecDepth 100000
set_option maxHeartbeats 8000000
section

noncomputable abbrev cCode (w : World) : Con (List (Int × Int) × Int) where
  Rel := fun news vs d => ∃ v t, vs = [v, .int d.2 t] ∧ TableIn w news v d.1
  Ok := fun d => ∃ z, (d.2, z) ∈ d.1
  size := 6
  Out := fun news r d => ∃ (a : Addr) (b z : Int) (t u : Tok) (n : Nat), r = .ref a ∧ (a, ({ cls := .type "tuple", data := .seq (List.toArray [.int b t, .int z u]) n } : Obj)) ∈ news ∧ (d.2, z) ∈ d.1
theorem code_tells (w : World) (mean mg mb) : TX w mean mg mb 132 (cCode w) := by
  unfold TX; k_fill
  intro d dp un gd cn cs a ccd cl outer A₀ base h₀ L m news s vs Q E B F X N T hk hR hok hd hu hret
  obtain ⟨es, sy⟩ := d
  dsimp only [cCode] at hR hok hd hu hret
  obtain ⟨v, t, rfl, x, dx, cd, o, kvs, t1, t2, t3, t4, lc, ls, lr, rfl, hx, hdx, hlo, hcd, ho, hcp⟩ := hR
  obtain ⟨z, hz⟩ := hok
  have hnd : (es.map (·.1)).Nodup := by
    obtain ⟨_, _, _, _, _, _, hn⟩ := ho
    rw [← hcp.keys]; exact hn
  obtain ⟨a9, b9, t9, u9, n9, hv9, hm9⟩ := hcp.at hnd hz
  have ks0 : KS "getMethod ref" := ⟨⟩; have ks1 : KS "call builtin:dict.get" := ⟨⟩; have ks2 : KS "call ref" := ⟨⟩
  have kM := kdMark
  have kM2 := kstMark
  have hcL := cLine_is
  refine wpAny_call ?_
  k_dflt ktr_enter
  refine tok_in (g := s.gens) (d := s.drawn) (o := s.os) fun tk00 => ?_
  k_steps
  rename_i g1 L1 h1 FG1 F1 N1 B1 X1 T1
  unfold Stop
  refine dict_meth PySem.F.slot_dict_get rfl N1 hcd ho ?_
  k_steps
  unfold Stop
  refine dict_get1 N1 hcd hlo ho ?_
  rw [hv9]
  dsimp only [Option.getD]
  k_steps
  rename_i kF kN _ _
  exact hret _ [] _ _ kF (fun p hp => kN p (by simpa using hp)) (fun p hp => nomatch hp) ⟨a9, b9, z, t9, u9, n9, rfl, by simpa using hm9, hz⟩
end
end
section
open PyProof.Rows.LCg PyProof.Rows.LCt PyProof.Rows.LCp
set_option maxRecDepth 100000
set_option maxHeartbeats 8000000
section

/-- a row of costs grown by one more count -/
noncomputable def grow1 (most : Nat) (c : Int) (r : Int × Int) : List (Int × Int) := (List.range most).map fun (k : Nat) => (r.1 + c * ((k : Int) + 1), r.2 + (2 : Int) ^ (most - (k + 1)))
noncomputable def grow (most : Nat) (rows : List (Int × Int)) (c : Int) : List (Int × Int) := (rows.flatMap (grow1 most c)).filter fun r => decide (r.2 < (2 : Int) ^ most)
noncomputable def allRows (most : Nat) (counts : List Int) : List (Int × Int) := counts.foldl (grow most) [(0, 0)]
theorem ints_at {L9 : List (Addr × Obj)} {vs : List Value} {ss : List Int} (h : DatAll L9 vs (ss.map .int)) {j : Nat} {v : Value} (hv : vs[j]? = some v) : ∃ (hj : j < ss.length) (t : Tok), v = .int ss[j] t := by
  have hl : vs.length = ss.length := by simpa using h.length
  have hj : j < ss.length := by rw [← hl]; exact (List.getElem?_eq_some_iff.mp hv).1
  obtain ⟨v', hv', hD⟩ := h.get (k := j) (by simpa using hj)
  rw [hv] at hv'
  obtain rfl := Option.some.inj hv'
  have e : (ss.map Dat.int)[j]'(by simpa using hj) = .int ss[j] := by simp
  rw [e] at hD
  cases hD
  exact ⟨hj, _, rfl⟩
theorem grow_len (most : Nat) (c : Int) : ∀ rows : List (Int × Int), (rows.flatMap (grow1 most c)).length = rows.length * most
  | [] => by simp
  | r :: rows => by
    rw [List.flatMap_cons, List.length_append, grow_len most c rows, List.length_cons, Nat.add_mul, Nat.one_mul]
    simp [grow1]; omega
theorem allRows_len (most : Nat) : ∀ (counts : List Int) (rows : List (Int × Int)), (counts.foldl (grow most) rows).length ≤ rows.length * most ^ counts.length
  | [], rows => by simp
  | c :: counts, rows => by
    rw [List.foldl_cons]
    have h1 := allRows_len most counts (grow most rows c)
    have h2 : (grow most rows c).length ≤ rows.length * most := by
      rw [← grow_len most c rows]; exact List.length_filter_le _ _
    refine Nat.le_trans h1 ?_
    rw [List.length_cons, Nat.pow_succ, Nat.mul_comm (most ^ counts.length), ← Nat.mul_assoc]
    exact Nat.mul_le_mul_right _ h2
noncomputable abbrev cCheap : Con (List Int × Nat) where
  Rel := fun news vs d => ∃ v t, vs = [v, .int d.2 t] ∧ DatIn news v (.list (d.1.map .int))
  Ok := fun d => d.1.length ≤ 4 ∧ 1 ≤ d.2 ∧ d.2 ≤ 4 ∧ allRows d.2 d.1 ≠ []
  size := 6
  Out := fun news r d => ∃ M t, r = .int M t ∧ M ∈ (allRows d.2 d.1).map (·.1) ∧ ∀ a ∈ (allRows d.2 d.1).map (·.1), M ≤ a
section
variable (L1 : Addr) (o1 : Obj) (news : List (Addr × Obj)) (most : Nat) (cts : List Int)
noncomputable def off4 : List Addr := (L1 + 1 + 1 + 1 + 1) :: (L1 + 1 + 1 + 1) :: (L1 + 1 + 1) :: (L1 + 1) :: news.map (·.1)
variable {L1 news} in
theorem off4_lt {D : Addr} (h : AllLt D ((L1 + 1 + 1 + 1 + 1, o1) :: (L1 + 1 + 1 + 1, o1) :: (L1 + 1 + 1, o1) :: (L1 + 1, o1) :: news)) : ∀ b ∈ off4 L1 news, D ≠ b := off_of_lt h
variable {L1 news} in
theorem off4_in {A : List (Addr × Obj)} {o4 o3 o2 o1 : Obj} (h4 : (L1 + 1 + 1 + 1 + 1, o4) ∈ A) (h3 : (L1 + 1 + 1 + 1, o3) ∈ A) (h2 : (L1 + 1 + 1, o2) ∈ A) (h1 : (L1 + 1, o1) ∈ A) (hn : ∀ p ∈ news, p ∈ A) : ∀ b ∈ off4 L1 news, ∃ o, (b, o) ∈ A :=
  allc ⟨_, h4⟩ (allc ⟨_, h3⟩ (allc ⟨_, h2⟩ (allc ⟨_, h1⟩ fun b hb => (addr_in hb).elim fun o ho => ⟨o, hn _ ho⟩)))
inductive CheapI (i : Nat) (m : Str → Option Value) (nx : List (Addr × Obj)) : Prop
  | mk (o4 o3 o2 : Obj) (v4 v3 v2 : Option Value) (lr : Addr) (rv : List Value) (n : Nat) (tl : List (Addr × Obj)) (e : nx = (L1 + 1 + 1 + 1 + 1, o4) :: (L1 + 1 + 1 + 1, o3) :: (L1 + 1 + 1, o2) :: (L1 + 1, o1) :: (news ++ tl)) (d4 : o4.data = .cell v4) (d3 : o3.data = .cell v3) (d2 : o2.data = .cell v2)
      (own : OwnOff tl (off4 L1 news)) (hl : (lr, listOf rv.toArray n) ∈ tl) (hD : DatAll tl rv ((allRows most (cts.take i)).map rowD)) (hm : m (Str.ofString "rows") = some (.ref lr)) : CheapI i m nx
variable (o2 it : Obj) (I : Addr) (tl : List (Addr × Obj)) (Rs : List (Int × Int)) (c : Int)
inductive CheapJ (j : Nat) (m : Str → Option Value) (nx : List (Addr × Obj)) : Prop
  | mk (o4 o3 : Obj) (v4 v3 : Option Value) (ll : Addr) (lv : List Value) (n : Nat) (tl9 : List (Addr × Obj)) (e : nx = (I, it) :: (L1 + 1 + 1 + 1 + 1, o4) :: (L1 + 1 + 1 + 1, o3) :: (L1 + 1 + 1, o2) :: (L1 + 1, o1) :: (news ++ tl9)) (d4 : o4.data = .cell v4) (d3 : o3.data = .cell v3)
      (own : OwnOff tl9 (off4 L1 news)) (hI : ∀ p ∈ tl9, p.1 ≠ I) (sub : ∀ p ∈ tl, p ∈ tl9) (hl : (ll, listOf lv.toArray n) ∈ tl9) (hD : DatAll tl9 lv (((Rs.take j).flatMap (grow1 most c)).map rowD)) (hm : m (Str.ofString "longer") = some (.ref ll)) : CheapJ j m nx
variable (base9 : List (Addr × Obj)) (r : Int × Int)
inductive CheapC (k : Nat) (ys : List Value) (nw : List (Addr × Obj)) : Prop
  | mk (tlC : List (Addr × Obj)) (e : nw = tlC ++ base9) (own : OwnOff tlC (base9.map (·.1))) (hD : DatAll tlC ys (((List.range k).map fun (k : Nat) => (r.1 + c * ((k : Int) + 1), r.2 + (2 : Int) ^ (most - (k + 1)))).map rowD)) : CheapC k ys nw
end
theorem cheap_tells (w : World) (mean mg mb) : TX w mean mg mb 165 cCheap := by
  unfold TX; k_fill
  intro d dp un gd cn cs a ccd cl outer A₀ base h₀ L m news s vs Q E B F X N T hk hR hok hd hu hret
  obtain ⟨cts, most⟩ := d
  dsimp only [cCheap] at hR hok hd hu hret
  obtain ⟨v, t, rfl, hR⟩ := hR
  cases hR
  rename_i lc us nc hlc hDc
  obtain ⟨hok1, hok2, hok3, hok4⟩ := hok
  have ks0 : KS "eval ListComp" := ⟨⟩; have ks1 : KS "exec Assign cons ListComp" := ⟨⟩; have ks2 : KS "pyIter ref" := ⟨⟩; have ks3 : KS "UnrEndW" := ⟨⟩; have ks4 : KS "CompEnd" := ⟨⟩; have ks5 : KS "CompSrc" := ⟨⟩; have ks6 : KS "CompSrcT" := ⟨⟩; have ks7 : KS "SrcLP" := ⟨⟩; have ks8 : KS "exec For" := ⟨⟩; have ks9 : KS "subscriptTail" := ⟨⟩; have ks10 : KS "call builtin:min" := ⟨⟩; have ks11 : KS "binaryOp Add ref ref" := ⟨⟩; have ks12 : KS "binaryOp Pow int int" := ⟨⟩
  have ks9 : KS "enterC" := ⟨⟩
  have kM := kdMark
  have kM2 := kstMark
  have hcL := cLine_is
  refine wpAny_call ?_
  k_dflt ktr_enter
  k_steps
  rename_i g1 L1 h1 tkA FG1 B1 X1 T1 ltN o4 o3 o2 o1 d4 d3 d2 d1 D0 h2 lt0 l0 h3 ltl h4 F4 N4
  unfold Stop
  replace d1 : o1.data = .cell (some (.int (most : Int) t)) := d1
  replace d2 : o2.data = .cell none := d2
  replace d3 : o3.data = .cell none := d3
  replace d4 : o4.data = .cell none := d4
  obtain ⟨mR, FM⟩ : ∃ mR : Str → Option Value, Fr g1 L1 h4 (fun y => if y = Str.ofString "counts" then some (.ref lc) else if y = Str.ofString "rows" then some (.ref l0) else mR y) := ⟨_, fr_as (fr_as F4 (a := Str.ofString "rows") rfl) (a := Str.ofString "counts") rfl⟩
  clear F4
  have hnc : ∀ p ∈ news, p.1 < L1 := ltN
  refine For_turns FM ?_
  k_steps
  unfold Stop
  refine for_list (vs := us) (CheapI L1 o1 news most cts)
    rfl FM (nsub N4 ?sub) (n := nc) ?mem ?keep ⟨o4, o3, o2, none, none, none, l0, [.ref D0], 0, [(l0, listOf #[Value.ref D0] 0), (D0, { cls := Value.type "tuple", data := Data.seq #[Value.int 0 tkA, Value.int 0 (tkA + 1)] })], rfl, d4, d3, d2, ?own, by simp, ?dat, rfl⟩ ?turn ?done
  case sub =>
    repeat' first | exact alln | refine alla ?_ ?_ | refine allc ?_ ?_ | k_mem | (intro p hp; k_mem)
  case mem => k_mem
  case keep =>
    rintro i m nx ⟨o4, o3, o2, v4, v3, v2, lr, rv, n, tl, rfl, -⟩
    k_mem
  case own =>
    exact allc (off4_lt o1 ltl.2) (allc (off4_lt o1 lt0) alln)
  case dat => exact DatAll.one (.tuple (vs := [_, _]) (n := 0) (List.mem_cons_of_mem _ List.mem_cons_self) (.cons (.int 0 tkA) (.cons (.int 0 (tkA + 1)) .nil)))
  case turn =>
    clear FM N4 d4 d3 d2 lt0 ltl
    rintro sx Q1 i v m nx I it h tk hi ⟨o4, o3, o2, v4, v3, v2, lr, rv, n, tl, rfl, d4, d3, d2, hOtl, hlr, hDr, hm⟩ hIo hc F5 N5
    have F6 := fr_as F5 (a := Str.ofString "rows") hm
    clear F5
    have hI4 : @Ne Nat (L1 + 1 + 1 + 1 + 1) I := hIo (L1 + 1 + 1 + 1 + 1, o4) (by first | k_mem | simp)
    have hI3 : @Ne Nat (L1 + 1 + 1 + 1) I := hIo (L1 + 1 + 1 + 1, o3) (by first | k_mem | simp)
    have hI2 : @Ne Nat (L1 + 1 + 1) I := hIo (L1 + 1 + 1, o2) (by first | k_mem | simp)
    have hI1 : @Ne Nat (L1 + 1) I := hIo (L1 + 1, o1) (by first | k_mem | simp)
    have hA1 : ∀ p ∈ news ++ tl, p.1 ≠ L1 + 1 := alla (fun p hp => ne_add (hnc p hp) 1) fun p hp => hOtl p hp _ (by unfold off4; k_mem)
    have hA2 : ∀ p ∈ news ++ tl, p.1 ≠ L1 + 1 + 1 := alla (fun p hp => ne_add (hnc p hp) 2) fun p hp => hOtl p hp _ (by unfold off4; k_mem)
    have hA3 : ∀ p ∈ news ++ tl, p.1 ≠ L1 + 1 + 1 + 1 := alla (fun p hp => ne_add (hnc p hp) 3) fun p hp => hOtl p hp _ (by unfold off4; k_mem)
    have hA4 : ∀ p ∈ news ++ tl, p.1 ≠ L1 + 1 + 1 + 1 + 1 := alla (fun p hp => ne_add (hnc p hp) 4) fun p hp => hOtl p hp _ (by unfold off4; k_mem)
    obtain ⟨hi', tc, rfl⟩ : ∃ (hj : i < cts.length) (t : Tok), v = .int cts[i] t := ints_at hDc hi
    obtain ⟨cn9, hcn⟩ : ∃ c, cts[i] = c := ⟨_, rfl⟩
    rw [hcn] at hi ⊢
    k_steps
    rename_i h5 o2' d2' ll h6 ltll h7 F7 N7
    clear d2
    unfold Stop
    obtain ⟨Rs, hRs⟩ : ∃ Rs, allRows most (cts.take i) = Rs := ⟨_, rfl⟩
    rw [hRs] at hDr
    have hRl : Rs.length ≤ 256 := by
      have h1 := allRows_len most (cts.take i) [(0, 0)]
      rw [← hRs]
      refine Nat.le_trans h1 ?_
      have h2 : most ^ (cts.take i).length ≤ 4 ^ 4 := Nat.le_trans (Nat.pow_le_pow_left hok3 _) (Nat.pow_le_pow_right (by decide) (by rw [List.length_take]; omega))
      simpa using h2
    have hrl : rv.length = Rs.length := by simpa using hDr.length
    refine For_turns F7 ?_
    k_steps
    unfold Stop
    refine for_list (vs := rv) (n := n) (CheapJ L1 o1 news most o2' it I tl Rs cn9)
      rfl F7 (nsub N7 ?sub2) ?mem2 ?keep2 ⟨o4, o3, v4, v3, ll, [], 0, (ll, listOf #[] 0) :: tl, rfl, d4, d3, ?own2, ?off2, (fun p hp => List.mem_cons_of_mem _ hp), List.mem_cons_self, DatAll.nil, rfl⟩ ?turn2 ?done2
    case sub2 =>
      repeat' first | exact alln | refine alla ?_ ?_ | refine allc ?_ ?_ | k_mem | (intro p hp; k_mem)
    case mem2 => k_mem
    case keep2 =>
      rintro j m nx ⟨o4, o3, v4, v3, ll, lv, n9, tl9, rfl, d4, d3, hO9, hI9, hsub, -⟩
      have hlr9 := hsub _ hlr
      k_mem
    case own2 =>
      exact allc (off4_lt o1 ⟨ltll.2.1, ltll.2.2.1, ltll.2.2.2.1, ltll.2.2.2.2.1, allLt_of fun p hp => tb_ltOf ltll.2.2.2.2.2 p (List.mem_append_left _ hp)⟩) hOtl
    case off2 =>
      exact allc (Nat.ne_of_gt ltll.1) fun p hp => hIo p (by k_mem)
    case turn2 =>
      clear F7 N7 d4 d3 F6 N5 hA2 hA3 hA4 hA1 ltll
      rintro sy Q2 j v m2 nx I2 it2 h8 tk8 hj ⟨o4, o3, v4, v3, ll, lv, n9, tl9, rfl, d4, d3, hO9, hI9, hsub, hll, hDl, hm9⟩ hIo2 hc2 F8 N8
      have F9 := fr_as F8 (a := Str.ofString "longer") hm9
      clear F8
      have hJ4 : @Ne Nat (L1 + 1 + 1 + 1 + 1) I2 := hIo2 (L1 + 1 + 1 + 1 + 1, o4) (by first | k_mem | simp)
      have hJ3 : @Ne Nat (L1 + 1 + 1 + 1) I2 := hIo2 (L1 + 1 + 1 + 1, o3) (by first | k_mem | simp)
      have hJ2 : @Ne Nat (L1 + 1 + 1) I2 := hIo2 (L1 + 1 + 1, o2') (by first | k_mem | simp)
      have hJ1 : @Ne Nat (L1 + 1) I2 := hIo2 (L1 + 1, o1) (by first | k_mem | simp)
      have hJI : @Ne Nat I I2 := hIo2 (I, it) (by first | k_mem | simp)
      have hA3 : ∀ p ∈ news ++ tl9, p.1 ≠ L1 + 1 + 1 + 1 := alla (fun p hp => ne_add (hnc p hp) 3) fun p hp => hO9 p hp _ (by unfold off4; k_mem)
      have hA4 : ∀ p ∈ news ++ tl9, p.1 ≠ L1 + 1 + 1 + 1 + 1 := alla (fun p hp => ne_add (hnc p hp) 4) fun p hp => hO9 p hp _ (by unfold off4; k_mem)
      have hA1 : ∀ p ∈ news ++ tl9, p.1 ≠ L1 + 1 := alla (fun p hp => ne_add (hnc p hp) 1) fun p hp => hO9 p hp _ (by unfold off4; k_mem)
      have hA2 : ∀ p ∈ news ++ tl9, p.1 ≠ L1 + 1 + 1 := alla (fun p hp => ne_add (hnc p hp) 2) fun p hp => hO9 p hp _ (by unfold off4; k_mem)
      have hj9 : j < Rs.length := by rw [← hrl]; exact (List.getElem?_eq_some_iff.mp hj).1
      obtain ⟨a1, ta, tb, na, e1, m1⟩ := row_at hDr hj9
      rw [e1] at hj
      obtain rfl := Option.some.inj hj
      have m1' := hsub _ m1
      obtain ⟨cost, hcost⟩ : ∃ c, (Rs[j]).1 = c := ⟨_, rfl⟩
      obtain ⟨used, hused⟩ : ∃ c, (Rs[j]).2 = c := ⟨_, rfl⟩
      rw [hcost, hused] at m1 m1'
      k_steps
      rename_i hA8 F9_ N9_ hB8 o3' d3' hC8 o4' F10 N10 d4'
      clear F9_ N9_ d3 d4
      unfold Stop
      k_dflt (refine ListComp_U (F₀ := by k_asm) (by with_unfolding_all rfl) (by decide) (by rfl) (by decide) (by rfl) ?_)
      k_steps
      rename_i FA0 NA0 hD8 tkD tD uD vD hRg FD ND keepD
      clear FA0 NA0
      unfold Stop
      obtain ⟨base9, hbase9⟩ : ∃ base9, base9 = (I2, it2) :: (I, it) :: (L1 + 1 + 1 + 1 + 1, o4') :: (L1 + 1 + 1 + 1, o3') :: (L1 + 1 + 1, o2') :: (L1 + 1, o1) :: (news ++ tl9) := ⟨_, rfl⟩
      have hbs : ∀ p ∈ (I2, it2) :: (I, it) :: (L1 + 1 + 1 + 1 + 1, o4') :: (L1 + 1 + 1 + 1, o3') :: (L1 + 1 + 1, o2') :: (L1 + 1, o1) :: (news ++ tl9), p ∈ base9 := hbase9 ▸ fun _ h => h
      have hb4 : (L1 + 1 + 1 + 1 + 1, o4') ∈ base9 := hbs _ (by k_mem)
      have hb3 : (L1 + 1 + 1 + 1, o3') ∈ base9 := hbs _ (by k_mem)
      have hb2 : (L1 + 1 + 1, o2') ∈ base9 := hbs _ (by k_mem)
      have hb1 : (L1 + 1, o1) ∈ base9 := hbs _ (by k_mem)
      rw [← hbase9] at ND
      refine CompSrc.range (n := most) rfl FD ND hRg (small_one (by decide) (by decide) (by omega) (by omega)) (by rw [rangeSize_one]; split <;> omega) (by rw [sizeLine_eq]; omega) ?_
      intro g9
      refine restU (CheapC most cn9 base9 (cost, used)) ?turn3 ?fin3 ⟨[], rfl, (fun _ h => nomatch h), DatAll.nil⟩
      case turn3 =>
        clear hbs
        rintro k ys nw hk9 ⟨tlC, rfl, hOC, hDC⟩ sz v I3 oI C oC D m₂ h tk E' ⟨tv, rfl⟩ hC hx F11 N11 hoff hne
        have hb4' : (L1 + 1 + 1 + 1 + 1, o4') ∈ tlC ++ base9 := List.mem_append_right _ hb4
        have hb3' : (L1 + 1 + 1 + 1, o3') ∈ tlC ++ base9 := List.mem_append_right _ hb3
        have hb2' : (L1 + 1 + 1, o2') ∈ tlC ++ base9 := List.mem_append_right _ hb2
        have hb1' : (L1 + 1, o1) ∈ tlC ++ base9 := List.mem_append_right _ hb1
        k_steps
        unfold Stop
        refine pow_int (by omega) (by rw [show (Builtin.Int.intBits 2 : Int) = 2 from by decide]; omega) ?_
        obtain ⟨PM, hPM⟩ : ∃ PM : Int, (2 : Int) ^ (most - (k + 1)) = PM := ⟨_, rfl⟩
        have hPM2 : (2 : Int) ^ ((most : Int) - (1 + (k : Int))).toNat = PM := by rw [← hPM]; congr 1; omega
        rw [hPM2]
        dsimp only
        k_steps
        rename_i D3 hF8 F12 N12 lt12
        unfold Stop
        have hlt : ∀ q ∈ [(D3, ({ cls := .type "tuple", data := .seq #[Value.int (cost + cn9 * (1 + (k : Int))) (tk + 1), Value.int (used + PM) (tk + 1 + 1 + 1 + 1 + 1)] } : Obj))], I3 < q.1 ∧ C < q.1 ∧ D < q.1 ∧ AllLt q.1 (tlC ++ base9) := allc lt12 alln
        refine compEnd_add [(D3, _)] (by assumption) N12 hlt hoff trivial ⟨_ :: tlC, rfl, own_add hOC (fun _ hp => List.mem_append_right _ hp) _ hlt, ?_⟩
        rw [List.range_succ, List.map_append, List.map_append]
        refine DatAll.append (hDC.mono fun p hp => List.mem_cons_of_mem _ hp) (DatAll.one (.tuple (vs := [_, _]) (n := 0) List.mem_cons_self (.cons ?_ (.cons ?_ .nil))))
        · dsimp only
          rw [show cost + cn9 * ((k : Int) + 1) = cost + cn9 * (1 + (k : Int)) by rw [Int.add_comm (k : Int) 1]]
          exact .int _ _
        · dsimp only
          rw [hPM]
          exact .int _ _
      case fin3 =>
        rintro ys nw ⟨tlC, rfl, hOC, hDC⟩ D9 h tk F11 N11 o9
        have hyl : ys.length = most := by have := hDC.length; simpa using this
        have hlvl : lv.length ≤ 1024 := by
          have h1 := hDl.length
          rw [List.length_map] at h1
          have h2 := grow_len most cn9 (Rs.take j)
          rw [List.length_take] at h2
          have h3 : min j Rs.length * most ≤ 256 * 4 := Nat.mul_le_mul (by omega) hok3
          omega
        dsimp only
        k_steps
        unfold Stop
        refine add_known F11 N11 (n := n9) (n' := ys.length) (vs := lv) (ws := ys) ?_ ?_ (by rw [sizeLine_eq]; omega) ?_
        · exact List.mem_cons_of_mem _ (List.mem_append_right _ (hbs _ (by k_mem)))
        · exact List.mem_cons_self
        intro D2 hE8 F12 N12 lt12
        dsimp only
        k_steps
        rename_i hG8 F13 N13
        unfold Stop
        refine ⟨_, _, _, (I, it) :: (L1 + 1 + 1 + 1 + 1, o4') :: (L1 + 1 + 1 + 1, o3') :: (L1 + 1 + 1, o2') :: (L1 + 1, o1) :: (news ++ ((D2, listOf (lv ++ ys).toArray 0) :: (D9, lst ys) :: (tlC ++ tl9))), rfl, F13, nsub N13 ?_, ?_, o4', o3', _, _, D2, lv ++ ys, 0, _, rfl, d4', d3', ?_, ?_, (fun p hp => List.mem_cons_of_mem _ (List.mem_cons_of_mem _ (List.mem_append_right _ (hsub p hp)))), List.mem_cons_self, ?_, rfl⟩
        · have hbq : ∀ p ∈ base9, p ∈ (D2, listOf (lv ++ ys).toArray 0) :: (D9, lst ys) :: (tlC ++ base9) := fun p hp => List.mem_cons_of_mem _ (List.mem_cons_of_mem _ (List.mem_append_right _ hp))
          have q := fun p hp => hbq p (hbs p hp)
          exact alla (allc (q _ (by k_mem)) alln) (allc (q _ (by k_mem)) (allc (q _ (by k_mem)) (allc (q _ (by k_mem)) (allc (q _ (by k_mem)) (allc (q _ (by k_mem)) (alla (fun p hp => q p (by k_mem)) (allc List.mem_cons_self (allc (List.mem_cons_of_mem _ List.mem_cons_self) (alla (fun p hp => List.mem_cons_of_mem _ (List.mem_cons_of_mem _ (List.mem_append_left _ hp))) fun p hp => q p (by k_mem))))))))))
        · have hb0 : (I2, it2) ∈ base9 := hbs _ (by k_mem)
          refine fun p hp q hq => (List.mem_singleton.mp hq) ▸ ?_
          revert p
          exact allc hJI (allc hJ4 (allc hJ3 (allc hJ2 (allc hJ1 (alla (fun p hp => hIo2 p (by k_mem)) (allc (Nat.ne_of_gt (lt12 (I2, it2) (List.mem_cons_of_mem _ (List.mem_append_right _ hb0)))) (allc (off1_mem o9 (I2, it2) (List.mem_append_right _ hb0)).symm (alla (fun p hp => hOC p hp I2 (List.mem_map.mpr ⟨_, hb0, rfl⟩)) fun p hp => hIo2 p (by k_mem)))))))))
        · have hbb : ∀ b ∈ off4 L1 news, ∃ o, (b, o) ∈ base9 := off4_in hb4 hb3 hb2 hb1 fun p hp => hbs p (by k_mem)
          exact allc (fun b hb => (hbb b hb).elim fun ob hob => Nat.ne_of_gt (lt12 (b, ob) (List.mem_cons_of_mem _ (List.mem_append_right _ hob))))
            (allc (fun b hb => (hbb b hb).elim fun ob hob => (off1_mem o9 (b, ob) (List.mem_append_right _ hob)).symm)
            (alla (fun p hp b hb => (hbb b hb).elim fun ob hob => hOC p hp b (List.mem_map.mpr ⟨_, hob, rfl⟩)) hO9))
        · have hbI : (I, it) ∈ base9 := hbs _ (by k_mem)
          exact allc (Nat.ne_of_gt (lt12 (I, it) (List.mem_cons_of_mem _ (List.mem_append_right _ hbI)))) (allc (off1_mem o9 (I, it) (List.mem_append_right _ hbI)).symm
            (alla (fun p hp => hOC p hp I (List.mem_map.mpr ⟨_, hbI, rfl⟩)) hI9))
        · have e9 : Rs.take (j + 1) = Rs.take j ++ [Rs[j]] := by rw [List.take_add_one, List.getElem?_eq_getElem hj9]; rfl
          rw [e9, List.flatMap_append, List.map_append]
          refine DatAll.append (hDl.mono fun p hp => List.mem_cons_of_mem _ (List.mem_cons_of_mem _ (List.mem_append_right _ hp))) ?_
          rw [List.flatMap_cons, List.flatMap_nil, List.append_nil, grow1, hcost, hused]
          exact hDC.mono fun p hp => List.mem_cons_of_mem _ (List.mem_cons_of_mem _ (List.mem_append_left _ hp))
    case done2 =>
      clear F7 N7 d4 d3 hA2 hA3 hA4 hA1 ltll
      rintro m2 nx h8 tk8 ⟨o4, o3, v4, v3, ll, lv, n9, tl9, rfl, d4, d3, hO9, hI9, hsub, hll, hDl, hm9⟩ F8 N8
      have F9 := fr_as F8 (a := Str.ofString "longer") hm9
      clear F8
      rw [hrl, List.take_length] at hDl
      obtain ⟨Ls, hLs⟩ : ∃ Ls, Rs.flatMap (grow1 most cn9) = Ls := ⟨_, rfl⟩
      rw [hLs] at hDl
      have hlv : lv.length = Ls.length := by simpa using hDl.length
      have hLl : Ls.length ≤ 1024 := by
        rw [← hLs, grow_len]
        exact Nat.mul_le_mul hRl hok3
      k_steps
      unfold Stop
      k_dflt (refine Assign_ListComp_T (F₀ := by k_asm) rfl (by with_unfolding_all rfl) (by with_unfolding_all rfl) (by decide) (by rfl) (by decide) (by rfl) (by rfl) (by rfl) ?_)
      k_steps
      unfold Stop
      obtain ⟨base8, hbase8⟩ : ∃ base8, base8 = (I, it) :: (L1 + 1 + 1 + 1 + 1, o4) :: (L1 + 1 + 1 + 1, o3) :: (L1 + 1 + 1, o2') :: (L1 + 1, o1) :: (news ++ tl9) := ⟨_, rfl⟩
      have hbs : ∀ p ∈ (I, it) :: (L1 + 1 + 1 + 1 + 1, o4) :: (L1 + 1 + 1 + 1, o3) :: (L1 + 1 + 1, o2') :: (L1 + 1, o1) :: (news ++ tl9), p ∈ base8 := hbase8 ▸ fun _ h => h
      have hb1 : (L1 + 1, o1) ∈ base8 := hbs _ (by k_mem)
      have hbl : (ll, listOf lv.toArray n9) ∈ base8 := hbs _ (by k_mem)
      have hbt : ∀ p ∈ tl9, p ∈ base8 := fun p hp => hbs p (by k_mem)
      rw [← hbase8] at N8
      refine CompSrcT.ledger rfl F9 N8 hbl (by rw [List.size_toArray, sizeLine_eq]; omega) ?_
      intro g9
      refine restT (fun k ys nw => nw = base8 ∧ DatAll tl9 ys (((Ls.take k).filter fun r => decide (r.2 < (2 : Int) ^ most)).map rowD)) ?turn4 ?fin4 ⟨rfl, DatAll.nil⟩
      case turn4 =>
        clear hbs
        rintro k ys nw hk9 ⟨rfl, hY⟩ sz v I3 oI C oC D m₂ h tk E' hv hC hx F11 N11 hoff hne
        have hk' : k < Ls.length := by rw [List.size_toArray, hlv] at hk9; exact hk9
        obtain ⟨a1, ta, tb, na, e1, m1⟩ := row_at hDl hk'
        have hv' : lv[k]? = some v := by simpa using hv
        rw [e1] at hv'
        obtain rfl := Option.some.inj hv'
        have m1' := hbt _ m1
        have hsrc : SrcAt g1 ll lv.toArray nw := .inr ⟨_, hbl, rfl, _, rfl⟩
        have etk : Ls.take (k + 1) = Ls.take k ++ [Ls[k]] := by rw [List.take_add_one, List.getElem?_eq_getElem hk']; rfl
        k_steps
        unfold Stop
        refine item_tup N11 (v := .int (Ls[k]).2 tb) rfl (List.mem_cons_of_mem _ (List.mem_cons_of_mem _ (List.mem_cons_of_mem _ m1'))) (by decide) (by decide) ?_
        k_steps
        unfold Stop
        refine pow_int (by omega) (by rw [show (Builtin.Int.intBits 2 : Int) = 2 from by decide]; omega) ?_
        obtain ⟨PM, hPM⟩ : ∃ PM : Int, (2 : Int) ^ most = PM := ⟨_, rfl⟩
        have hPM2 : (2 : Int) ^ ((most : Int)).toNat = PM := by rw [← hPM]; congr 1
        rw [hPM2]
        dsimp only
        k_steps
        · rename_i hq
          unfold Stop
          refine CompEnd.intro F11 N11 _ (fun _ hp => hp) hoff hsrc ⟨rfl, ?_⟩
          rw [etk, List.filter_append, List.filter_cons_of_pos (by rw [hPM]; exact decide_eq_true hq), List.filter_nil, List.map_append]
          exact DatAll.append hY (DatAll.one (.tuple (vs := [_, _]) (n := na) m1 (.cons (.int _ _) (.cons (.int _ _) .nil))))
        · rename_i hq
          unfold Stop
          refine CompEnd.intro F11 N11 _ (fun _ hp => hp) hoff hsrc ⟨rfl, ?_⟩
          rw [etk, List.filter_append, List.filter_cons_of_neg (by rw [hPM]; simpa using hq), List.filter_nil, List.append_nil]
          exact hY
      case fin4 =>
        rintro ys nw ⟨rfl, hY⟩ D9 h tk F11 N11 o9
        dsimp only
        rw [List.size_toArray, hlv, List.take_length] at hY
        k_steps
        unfold Stop
        refine ⟨_, _, _, (L1 + 1 + 1 + 1 + 1, o4) :: (L1 + 1 + 1 + 1, o3) :: (L1 + 1 + 1, o2') :: (L1 + 1, o1) :: (news ++ ((D9, lst ys) :: tl9)), rfl, F11, nsub N11 ?_, ?_, o4, o3, o2', _, _, _, D9, ys, ys.length, _, rfl, d4, d3, d2', ?_, List.mem_cons_self, ?_, rfl⟩
        · have q := fun p hp => List.mem_cons_of_mem (D9, lst ys) (hbs p hp)
          exact alla (allc (q _ (by k_mem)) alln) (allc (q _ (by k_mem)) (allc (q _ (by k_mem)) (allc (q _ (by k_mem)) (allc (q _ (by k_mem)) (alla (fun p hp => q p (by k_mem)) (allc List.mem_cons_self fun p hp => q p (by k_mem)))))))
        · refine fun p hp q hq => (List.mem_singleton.mp hq) ▸ ?_
          revert p
          exact allc hI4 (allc hI3 (allc hI2 (allc hI1 (alla (fun p hp => hIo p (by k_mem)) (allc (off1_mem o9 (I, it) (hbs _ (by k_mem))).symm hI9)))))
        · exact allc (fun b hb => (off4_in (hbs _ (by k_mem)) (hbs _ (by k_mem)) (hbs _ (by k_mem)) (hbs _ (by k_mem)) (fun p hp => hbs p (by k_mem)) b hb).elim fun ob hob => (off1_mem o9 (b, ob) hob).symm) hO9
        · have e9 : cts.take (i + 1) = cts.take i ++ [cts[i]] := by rw [List.take_add_one, List.getElem?_eq_getElem hi']; rfl
          have e8 : allRows most (cts.take (i + 1)) = Ls.filter fun r => decide (r.2 < (2 : Int) ^ most) := by
            rw [e9, allRows, List.foldl_append]
            show grow most (allRows most (cts.take i)) cts[i] = _
            rw [hRs, hcn, grow, hLs]
          rw [e8]
          exact hY.mono fun p hp => List.mem_cons_of_mem _ hp
  case done =>
    clear FM N4 d4 d3 d2 lt0 ltl
    rintro m nx h tk ⟨o4, o3, o2, v4, v3, v2, lr, rv, n, tl, rfl, d4, d3, d2, hOtl, hlr, hDr, hm⟩ F5 N5
    have F6 := fr_as F5 (a := Str.ofString "rows") hm
    clear F5
    have hul : us.length = cts.length := by simpa using hDc.length
    rw [hul, List.take_length] at hDr
    k_steps
    unfold Stop
    k_dflt (refine LCp.ListComp_P (F₀ := by k_asm) (by with_unfolding_all rfl) (by decide) (by rfl) (by decide) (by rfl) (by rfl) (by decide) ?_)
    k_steps
    unfold Stop
    obtain ⟨As, hAs⟩ : ∃ As, allRows most cts = As := ⟨_, rfl⟩
    rw [hAs] at hDr hret hok4
    have hAl : As.length ≤ 256 := by
      have h1 := allRows_len most cts [(0, 0)]
      rw [← hAs]
      refine Nat.le_trans h1 ?_
      have h2 : most ^ cts.length ≤ 4 ^ 4 := Nat.le_trans (Nat.pow_le_pow_left hok3 _) (Nat.pow_le_pow_right (by decide) (by omega))
      simpa using h2
    have hrl : rv.length = As.length := by simpa using hDr.length
    obtain ⟨base8, hbase8⟩ : ∃ base8, base8 = (L1 + 1 + 1 + 1 + 1, o4) :: (L1 + 1 + 1 + 1, o3) :: (L1 + 1 + 1, o2) :: (L1 + 1, o1) :: (news ++ tl) := ⟨_, rfl⟩
    have hbs : ∀ p ∈ (L1 + 1 + 1 + 1 + 1, o4) :: (L1 + 1 + 1 + 1, o3) :: (L1 + 1 + 1, o2) :: (L1 + 1, o1) :: (news ++ tl), p ∈ base8 := hbase8 ▸ fun _ h => h
    have hbl : (lr, listOf rv.toArray n) ∈ base8 := hbs _ (by k_mem)
    have hbt : ∀ p ∈ tl, p ∈ base8 := fun p hp => hbs p (by k_mem)
    rw [← hbase8] at N5
    refine SrcLP.ledger rfl F6 N5 hbl (by rw [List.size_toArray, sizeLine_eq]; omega) ?_
    intro g9
    refine restP (fun k ys nw => nw = base8 ∧ IntsAre ys ((As.take k).map (·.1))) ?turn5 ?fin5 ⟨rfl, .nil⟩
    case turn5 =>
      clear hbs
      rintro k ys nw hk9 ⟨rfl, hY⟩ v hv
      have hk' : k < As.length := by rw [List.size_toArray, hrl] at hk9; exact hk9
      obtain ⟨a1, ta, tb, na, e1, m1⟩ := row_at hDr hk'
      have hv' : rv[k]? = some v := by simpa using hv
      rw [e1] at hv'
      obtain rfl := Option.some.inj hv'
      refine ⟨a1, _, _, _, _, rfl, hbt _ m1, rfl, rfl, ?_⟩
      intro sz I3 oI C oC D m₂ h tk E' hC hx1 hx2 F11 N11 hoff hne
      k_steps
      unfold Stop
      refine CompEnd.intro (by assumption) N11 _ (fun _ hp => hp) hoff (.inr ⟨_, hbl, rfl, _, rfl⟩) ⟨rfl, ?_⟩
      have ez : (As.take (k + 1)).map (·.1) = (As.take k).map (·.1) ++ [(As[k]).1] := by
        rw [List.take_add_one, List.getElem?_eq_getElem hk', List.map_append]; rfl
      rw [ez]
      exact ints_snoc hY
    case fin5 =>
      rintro ys nw ⟨rfl, hY⟩ D9 h tk F11 N11 o9
      rw [List.size_toArray, hrl, List.take_length] at hY
      dsimp only
      k_steps
      unfold Stop
      refine kso_min F11 N11 ⟨_, (N11 (D9, lst ys) List.mem_cons_self).1, rfl, _, rfl⟩ hY ?_ rfl ?_
      · rw [List.length_map]; exact List.length_pos_iff.mpr hok4
      intro h9 M t9 tk9 F12 N12 hM1 hM2
      dsimp only
      k_steps
      rename_i kF kN _ _
      refine hret _ ((D9, lst ys) :: (L1 + 1 + 1 + 1 + 1, o4) :: (L1 + 1 + 1 + 1, o3) :: (L1 + 1 + 1, o2) :: (L1 + 1, o1) :: tl) _ _ kF (nsub kN ?_) ?_ ⟨M, t9, rfl, hM1, hM2⟩
      · have q := fun p hp => List.mem_cons_of_mem (D9, lst ys) (hbs p hp)
        exact alla (fun p hp => q p (by k_mem)) (allc List.mem_cons_self (allc (q _ (by k_mem)) (allc (q _ (by k_mem)) (allc (q _ (by k_mem)) (allc (q _ (by k_mem)) fun p hp => q p (by k_mem))))))
      · have hl : ∀ b ∈ news.map (·.1), @LT.lt Nat _ b L1 := fun b hb => (addr_in hb).elim fun o ho => hnc _ ho
        refine allc (fun b hb => (addr_in hb).elim fun o ho => (off1_mem o9 (b, o) (hbs _ (by k_mem))).symm) ?_
        refine allc (fun b hb => (ne_add (hl b hb) 4).symm) (allc (fun b hb => (ne_add (hl b hb) 3).symm) (allc (fun b hb => (ne_add (hl b hb) 2).symm) (allc (fun b hb => (ne_add (hl b hb) 1).symm) fun p hp b hb => hOtl p hp b ?_)))
        exact List.mem_cons_of_mem _ (List.mem_cons_of_mem _ (List.mem_cons_of_mem _ (List.mem_cons_of_mem _ hb)))
end
end
section
set_option maxRecDepth 100000
set_option maxHeartbeats 8000000
open Sem (wp)
open Builtin Builtin.ObjectAttr
noncomputable def excTail : List Value → Bool
  | [.type a, .type b, .type c] => a == "Exception" && b == "BaseException" && c == "object"
  | .ref _ :: r => excTail r
  | _ => false
theorem refuse_exc (self : Value) : ∀ {l : List Value}, excTail l = true → refuseLoop self "__setattr__" l = pure ()
  | [.type a, .type b, .type c], e => by
    simp only [excTail, Bool.and_eq_true, beq_iff_eq] at e
    obtain ⟨⟨rfl, rfl⟩, rfl⟩ := e
    exact PySem.F.store_Exception.passes self
  | .ref _ :: r, e => by rw [refuseLoop_ref]; exact refuse_exc self (l := r) (by unfold excTail at e; exact e)
theorem exc_has (x : String) (hx : x = "Exception" ∨ x = "BaseException" ∨ x = "object") : ∀ {l : List Value}, excTail l = true → l.contains (.type x) = true
  | [.type a, .type b, .type c], e => by
    simp only [excTail, Bool.and_eq_true, beq_iff_eq] at e
    obtain ⟨⟨rfl, rfl⟩, rfl⟩ := e
    rcases hx with rfl | rfl | rfl <;> decide
  | .ref _ :: r, e => by rw [List.contains_cons, exc_has x hx (l := r) (by unfold excTail at e; exact e), Bool.or_true]
theorem cls_obj {K : Frag} {h : Heap} {C : Addr} {cd : ClassData} (X : K.In h) (hc : clsIn K C = some cd) : ∃ c0 dd sl, h.get? C = some ⟨c0, dd, .cls cd, sl⟩ := by
  unfold clsIn at hc
  split at hc
  · rename_i ho
    cases hc
    exact ⟨_, _, _, X _ _ ho⟩
  · cases hc
section
variable {prog : Program} {w : World} {A : Around} {E : Value → Shared → Prop} {s : Shared} {K : Frag} {C e : Addr} {oe : Obj} {vs : Array Value}
theorem exc_set {name : Str} {v : Value} {cd : ClassData} {Q : Unit → Shared → Prop} (X : K.In s.heap) (he : s.heap.get? e = some oe) (hcl : oe.cls = .ref C) (hdn : oe.dict = none) (hdata : oe.data = .fields vs)
    (hs : findIn K (.ref C) "__setattr__" = some (some (.builtin "object.__setattr__"))) (hc : clsIn K C = some cd) (hm : excTail cd.mro = true) (hh : cd.hasDict = true) (ht : findIn K (.ref C) name = some none)
    (h : ∀ h' tk' d, (∀ b o, b ≠ e → s.heap.get? b = some o → h'.get? b = some o) → h'.get? e = some { oe with dict := some d } → Q () { s with heap := h', toks := tk' }) :
    wpAny (model prog w) A (setAttr (.ref e) name v) Q E s := by
  have I : InstAt s.heap e oe C none := ⟨he, hcl, by unfold notCls; rw [hdata], by rw [hdn]; trivial⟩
  refine set_plain X I hs ?_
  have SF := PySem.F.store_Exception
  have ne : cd.mro.isEmpty = false := by cases q : cd.mro with | nil => rw [q] at hm; cases hm | cons _ _ => rfl
  have sub : Looks (model prog w) s.heap (isInstance (.ref e) (.type "object")) true := I.type.andThen (looks_mroIn X (by unfold mroIn; rw [hc, Option.bind_some, if_neg (by rw [ne]; decide), exc_has _ (.inr (.inr rfl)) hm]))
  refine codeAny_call_builtin SF.slot.plain SF.entry (@check_slot (model prog w) _ _ { s with toks := s.toks + 1 } "object.__setattr__" "object" "__setattr__" (.ref e) [.str name s.toks, v] [] _ SF.kind SF.split sub (SF.args (.ref e) (.str name s.toks) v) ?_)
  have hmro : Looks (model prog w) s.heap (mroOf (.ref C)) cd.mro := (looks_clsIn X hc).andThen .now
  rw [osa_eq, refuse_eq]
  refine wpAny_bind (wpAny_bind (I.type.here (s := { s with toks := s.toks + 1 }) (wpAny_bind (hmro.here (s := { s with toks := s.toks + 1 }) ?_))))
  rw [refuse_exc _ hm]
  refine wpAny_pure (wpAny_bind (I.type.here (s := { s with toks := s.toks + 1 }) (wpAny_bind ((looks_findIn X ht).here (s := { s with toks := s.toks + 1 }) (wpAny_bind (wpAny_pure ?_))))))
  obtain ⟨oc, odi, oda, osl⟩ := oe
  dsimp only at hcl hdn hdata
  subst hcl hdn hdata
  have hx₁ : (s.heap.push { cls := .type "dict", data := .dict #[] }).get? e = some ⟨.ref C, none, .fields vs, osl⟩ := Heap.get?_push_of_some _ he
  have hxs : e ≠ s.heap.objs.size := Nat.ne_of_lt (Heap.lt_size he)
  refine wpAny_bind (wpAny_pure (wpAny_bind (wpAny_bind (wpAny_loadPart he (wpAny_bind ((looks_clsIn X hc).here (s := { s with toks := s.toks + 1 }) ?_))))))
  rw [hh]
  refine wpAny_bind (wpAny_alloc' ?_)
  refine wpAny_bind (wpAny_update' hx₁ ?_)
  refine wpAny_pure ?_
  have hgd : ((s.heap.push { cls := .type "dict", data := .dict #[] }).update e fun o => { cls := o.cls, dict := some s.heap.objs.size, data := o.data, slots := o.slots }).get? s.heap.objs.size
      = some { cls := .type "dict", data := .dict #[] } :=
    (Heap.get?_update_ne _ _ _ _ hxs.symm).trans (Heap.get?_push_at rfl rfl)
  have hnd : ((s.heap.push { cls := .type "dict", data := .dict #[] }).update e fun o => { cls := o.cls, dict := some s.heap.objs.size, data := o.data, slots := o.slots }).Ns s.heap.objs.size (fun _ => none) :=
    ⟨_, #[], _, hgd, rfl, fun e he => absurd he (by simp), fun _ => rfl⟩
  show wpAny _ _ (storeInDict s.heap.objs.size (.str name s.toks) name v) _ _ _
  unfold storeInDict newKeyGuard
  refine wpAny_bind (wpAny_pure (wpAny_bind (wpAny_nsSet1 (Heap.Ns1.of_empty hnd) fun h' hn' hs => ?_)))
  obtain ⟨oD, esD, epD, hoD, hdD, hcD⟩ := hn'.count (Within.cons name v Within.nil)
  refine wpAny_bind (wpAny_lookBehind hoD (by rw [hdD]; exact pastItsLine_dict (Nat.le_trans hcD (by rw [List.length_cons, List.length_nil, sizeLine_eq]; omega))) ?_)
  wp_walk
  refine h h' _ s.heap.objs.size (fun b ob hbx hb => ?_) ?_
  · exact (hs.2 b (Nat.ne_of_lt (Heap.lt_size hb))).trans ((Heap.get?_update_ne _ _ _ _ hbx).trans (Heap.get?_push_of_some _ hb))
  · exact (hs.2 e hxs).trans (Heap.get?_update_self _ hx₁ rfl)
theorem exc_init {t0 : Addr} {rest : List Value} {cd : ClassData} {Q : Value → Shared → Prop} (X : K.In s.heap) (he : s.heap.get? e = some oe) (hcl : oe.cls = .ref C) (hdata : oe.data = .fields vs) (h0 : vs[0]? = some (.ref t0))
    (hc : clsIn K C = some cd) (hm : excTail cd.mro = true) (hrest : rest.length ≤ sizeLine)
    (h : Q .none { s with heap := (s.heap.push { cls := .type "tuple", data := .seq rest.toArray }).update e (Obj.mapFields (·.setIfInBounds 0 (.ref s.heap.objs.size))) }) :
    wpAny (model prog w) A (call (.builtin "Exception.__init__") (.ref e :: rest)) Q E s := by
  have FB := PySem.F.excBase_Exception
  have hshort := FB.noStar
  have ne : cd.mro.isEmpty = false := by cases q : cd.mro with | nil => rw [q] at hm; cases hm | cons _ _ => rfl
  have ht : Looks (model prog w) s.heap (typeOf (.ref e)) oe.cls := (Looks.ld he).andThen .now
  rw [hcl] at ht
  have sub : Looks (model prog w) s.heap (isInstance (.ref e) (.type "Exception")) true := ht.andThen (looks_mroIn X (by unfold mroIn; rw [hc, Option.bind_some, if_neg (by rw [ne]; decide), exc_has _ (.inl rfl) hm]))
  refine wpAny_call (codeAny_call_builtin FB.init.plain FB.initEntry ?_)
  simp only [checkBuiltinCall, FB.initKind, FB.initSplit, FB.initRow]
  refine wpAny_bind (sub.here ?_)
  obtain ⟨c0, dd, sl, hC⟩ := cls_obj X hc
  obtain ⟨hp, g, d, tk, os⟩ := s
  repeat (first | (with_reducible refine wpAny_loadPart_at he ?_; rw [hcl]) | with_reducible refine wpAny_loadPart_at hC ?_ | wp_step)
  refine wpAny_onRaise ?_
  rw [show ∀ (a b : String) (n : Nat), Bind.check ⟨.positional, "*", "Exception", .self, [⟨"args", .varPos, false⟩]⟩ a b n (List.map (fun x => x.fst) ({ pos := Value.ref e :: rest } : Args).kw) = pure () from
    fun a b n => check_star_args _ _ _ _ _ _]
  refine wpAny_pure ?_
  unfold Builtin.«BaseException.__init__»
  dsimp only
  rw [if_neg (by simp)]
  unfold newTuple Builtin.BaseException.bexcPut
  have hsz : 0 < vs.size := (Array.getElem?_eq_some_iff.mp h0).1
  have he₁ := Heap.get?_push_of_some (h := hp) { cls := .type "tuple", data := .seq rest.toArray } he
  refine wpAny_bind (wpAny_newObj_type (wpAny_bind (wpAny_bind (wpAny_field he₁ hdata h0 (wpAny_bind (wpAny_setField he₁ hdata hsz ?_))))) (by show rest.toArray.size ≤ sizeLine; rw [List.size_toArray]; exact hrest))
  exact wpAny_letGo (wpAny_pure h)
end
end
section
open PyProof.Rows.LCg
set_option maxRecDepth 100000
set_option maxHeartbeats 8000000
section

local macro_rules | `(tactic| walk_at "getMethod type:Exception") => `(tactic| (k_here; (with_reducible refine' method_type ?F ?X ?m ?dk ?e ?h ?_); (case F => k_asm); (case dk => decide +kernel); (case X => k_asm); (case m => exact meta_object); (case e => k_dflt k_is); (case h => k_handed)))
noncomputable abbrev excO (t : Addr) (sl : Array (Option Value)) : Obj := ⟨.ref 44, none, .fields #[.ref t, .none, .none, .none, .bool false, .none], sl⟩
theorem init_walk (w : World) (mean mg mb) (e t : Addr) (msg : Str) (tm : Tok) (sl : Array (Option Value)) (news : List (Addr × Obj)) (dp un : Nat) (gd : Option (List Code)) (cn : Str) (cs : Scope) (a : Addr) (ccd : Value) (cl : List (Str × Addr)) (outer : List Env) (A₀ : Around) (base h₀ : Heap) (L : Addr) (m : Str → Option Value) (s : Shared)
    (Q E : Value → Shared → Prop) (B : Below A₀ base outer h₀) (F : Fr h₀ L s.heap m) (X : (heap w.params).In h₀) (N : News h₀ L s.heap ((e, excO t sl) :: (t, ({ cls := .type "tuple", data := .seq #[.str msg tm] } : Obj)) :: news)) (htE : t ≠ e) (N9 : ∀ p ∈ news, p.1 ≠ e) (T : Top view (looseW view [Str.ofString "best_table"]) mean mg mb h₀) (hk : cs.kind = .function)
    (hd : dp + 4 < recursionLimit) (hu : un + 8 * 4 < cLine)
    (hret : ∀ h' tk' od t2 sl2, Fr h₀ L h' m → News h₀ L h' news → h'.get? e = some ⟨.ref 44, od, .fields #[.ref t2, .none, .none, .none, .bool false, .none], sl2⟩ → Q .none { s with heap := h', toks := tk' }) :
    wpAny (model PySem.Challenge.rw_nt0548_01.row.prog w) (ktrTop dp un gd cn cs L a ccd cl outer) (call (.ref 28) [.ref e, .str msg tm]) Q E s := by
  revert hret hu hd hk T N9 htE N X F B
  k_fill
  intro B F X N htE N9 T hk hd hu hret
  have ks0 : KS "setAttr ref" := ⟨⟩; have ks1 : KS "call builtin:Exception.__init__" := ⟨⟩
  have kM := kdMark
  have kM2 := kstMark
  have hcL := cLine_is
  refine wpAny_call ?_
  k_dflt ktr_enter
  refine tok_in (g := s.gens) (d := s.drawn) (o := s.os) fun tk00 => ?_
  k_steps
  rename_i g1 L1 h1 FG1 F1 N1 B1 X1 T1
  unfold Stop
  have hany : (clsIn (Mine.heap w.params) 44).any (fun cd => excTail cd.mro && cd.hasDict) = true := by rfl
  obtain ⟨cd, hcd, hcd2⟩ := any_some hany
  simp only [Bool.and_eq_true] at hcd2
  have hE1 := (N1 _ List.mem_cons_self).1
  have hE2 := (N1 _ List.mem_cons_self).2.1
  have hE3 := (N1 _ List.mem_cons_self).2.2
  have hNe : ∀ p ∈ news, p.1 ≠ e := by
    intro p hp
    exact (N9 p hp)
  refine exc_init (X1.keeps F1.keep) hE1 rfl rfl (t0 := t) rfl hcd hcd2.1 (by size_fits) ?_
  obtain ⟨F2, N2⟩ := news_upd (f := Obj.mapFields (·.setIfInBounds 0 (.ref h1.objs.size))) (d := e) (pre := [(h1.objs.size, ({ cls := .type "tuple", data := .seq #[.str msg tm] } : Obj))]) (o := excO t sl) (o' := excO h1.objs.size sl) (F1.push _) (N1.push F1 _) (by
    intro p hp
    rw [List.mem_singleton.mp hp]
    exact Nat.ne_of_gt (Heap.lt_size hE1)) (by
    intro p hp
    rcases List.mem_cons.mp hp with rfl | hp
    · exact htE
    · exact hNe p hp) rfl rfl
  dsimp only
  obtain ⟨h2, hh2⟩ : ∃ h2, (h1.push ({ cls := .type "tuple", data := .seq #[.str msg tm] } : Obj)).update e (Obj.mapFields (·.setIfInBounds 0 (.ref h1.objs.size))) = h2 := ⟨_, rfl⟩
  rw [hh2] at F2 N2
  have hh3 : ((h1.push ({ cls := .type "tuple", data := .seq [Value.str msg tm].toArray } : Obj)).update e (Obj.mapFields (·.setIfInBounds 0 (.ref h1.objs.size)))) = h2 := hh2
  rw [hh3]
  obtain ⟨t2, ht2⟩ : ∃ t2, h1.objs.size = t2 := ⟨_, rfl⟩
  rw [ht2] at N2
  clear F1 N1 hh2 hh3
  k_steps
  unfold Stop
  have hE2' := N2 (e, excO t2 sl) (by simp)
  have hN2 : News g1 L1 h2 news := fun p hp => N2 p (by simp [hp])
  refine exc_set (K := Mine.heap w.params) (X1.keeps F2.keep) hE2'.1 rfl rfl rfl (by k_is) hcd hcd2.1 hcd2.2 (by k_is) ?_
  intro h3 tk3 d3 hk3 hE3'
  have F3 := fr_but (I := e) F2 (fun b o hb ho => hk3 b o (by simpa using hb) ho) hE2'.2.1.symm hE2'.2.2
  have N3 := news_but (I := e) hN2 (fun b o hb ho => hk3 b o (by simpa using hb) ho) hNe
  clear F2 N2
  k_steps
  rename_i kF kN _ _
  exact hret _ _ (some d3) t2 sl kF kN hE3'
end
end
section
open PyProof.Rows.LCg
set_option maxRecDepth 100000
set_option maxHeartbeats 8000000
noncomputable def exIn (K : Frag) (C : Addr) : Bool := match K.lookup C with
  | some ⟨.type "type", _, .cls cd, sl⟩ => (match cd.mro, sl.toList with
    | .ref C' :: bm, [_, _, _, _, some (.builtin n), _] => C' == C && !cd.hasDel && n == "Exception.__new__" && bm.contains (.type "BaseException") && bm.contains (.type "Exception") && !bm.contains (.type "AttributeError") && !bm.contains (.type "NameError")
    | _, _ => false)
  | _ => false
theorem ex_cls {K : Frag} {C : Addr} (q : exIn K C = true) : ∃ nm qn N bs bm hdct sn sub ab col dd k0 k1 k2 k3 k5,
    (∀ h : Heap, K.In h → h.get? C = some (excClassObj nm qn C N bs bm hdct sn sub ab col dd k0 k1 k2 k3 k5 "Exception.__new__")) ∧ bm.contains (.type "BaseException") = true ∧ bm.contains (.type "Exception") = true ∧ bm.contains (.type "AttributeError") = false ∧ bm.contains (.type "NameError") = false := by
  unfold exIn at q
  split at q
  · rename_i dd cd sl ho
    split at q
    · rename_i C' bm k0 k1 k2 k3 n k5 hm hs
      simp only [Bool.and_eq_true, beq_iff_eq, Bool.not_eq_true'] at q
      obtain ⟨⟨⟨⟨⟨⟨rfl, hdel⟩, hn⟩, hb⟩, ht⟩, h1⟩, h2⟩ := q
      obtain ⟨nm, bs, mro, ns, qn, hd, sn, sub, ab, col, del⟩ := cd
      dsimp only at hm hdel
      subst hm hdel hn
      have hsl : sl = #[k0, k1, k2, k3, some (.builtin "Exception.__new__"), k5] := by
        obtain ⟨l⟩ := sl
        simp only at hs
        rw [hs]
      subst hsl
      exact ⟨nm, qn, ns, bs, bm, hd, sn, sub, ab, col, dd, k0, k1, k2, k3, k5, fun h X => X _ _ ho, hb, ht, h1, h2⟩
    · cases q
  · cases q
section
variable {M : Model} {A : Around} {E : Value → Shared → Prop} {s' : Shared} {base g : Heap} {outer : List Env} {L a e : Addr} {m : Str → Option Value} {name : Str} {scope : Scope} {cd : Value} {Q : Unit → Shared → Prop} {news : List (Addr × Obj)}
theorem leave_newX {oe : Obj} {vs : Array Value} {a0 : Value} (K : Below A base outer g) (he : s'.heap.get? e = some oe) (hd : oe.data = .fields vs) (h1 : vs[1]? = some .none) (h0 : vs[0]? = some a0) (hge : g.get? e = none) (heL : e ≠ L)
    (F : Fr g L s'.heap m) (N : News g L s'.heap news) (hne : ∀ p ∈ news, p.1 ≠ e)
    (hQ : ∀ h', RaisedSN base g outer e oe.cls news h' → g.UpToSlots h' → Q () { s' with heap := h' }) (hk : scope.kind = .function := by rfl) :
    wpAny M (A.deeper (envOf name scope L a cd)) (leaving (envOf name scope L a cd) (.ref e)) Q E s' := by
  have Fh : Fr g L (hideAll s'.heap [e]) m := by
    obtain ⟨oL, es, ep, hL, r⟩ := F.ns
    refine ⟨⟨oL, es, ep, hideAll_get _ hL (by simpa using heL.symm), r⟩, fun b o q => hideAll_get _ (F.keep b o q) (by
      intro hm
      rw [List.mem_singleton.mp hm, hge] at q; cases q), F.above⟩
  have Nh : News g L (hideAll s'.heap [e]) news := fun p hp => ⟨hideAll_get _ (N p hp).1 (by simpa using hne p hp), (N p hp).2⟩
  have keeps : ∀ b o, (hideAll s'.heap [e]).get? b = some o → s'.heap.get? b = some o := fun b o q => of_hideAll _ q
  have hnew : (hideAll s'.heap [e]).get? e = none := hideAll_none _ (by simp)
  have K' := K.push (name := name) (a := a) (cd := cd) Fh hk
  have hin : ∀ env ∈ (envOf name scope L a cd :: outer), ∀ b, env.frame = some b → b ∈ (envOf name scope L a cd :: outer).filterMap (·.frame) := fun env he b hb => List.mem_filterMap.mpr ⟨env, he, hb⟩
  have st : base.StaysIn (hideAll (hideAll s'.heap [e]) ((envOf name scope L a cd :: outer).filterMap (·.frame))) := fun b o q => hideAll_get _ (K'.stays b o q) fun hm => by
    rw [(K'.frames.mem hm).1] at q; cases q
  have sg : ∀ b o, g.get? b = some o → b ∉ outer.filterMap (·.frame) → (hideAll (hideAll s'.heap [e]) ((envOf name scope L a cd :: outer).filterMap (·.frame))).get? b = some o := fun b o q nm => hideAll_get _ (Fh.keep b o q) fun hm => by
    rcases kts_mem hm with z | z
    · rw [z, kts_self Fh] at q
      cases q
    · exact nm z
  have hl : ∀ q ∈ news, (hideAll (hideAll s'.heap [e]) ((envOf name scope L a cd :: outer).filterMap (·.frame))).get? q.1 = some q.2 ∧ g.get? q.1 = none ∧ base.get? q.1 = none := fun q hq => by
    refine ⟨hideAll_get _ (Nh q hq).1 fun hm => ?_, (Nh q hq).2.2, fresh_of_stays K.stays (Nh q hq).2.2⟩
    obtain ⟨env, he, hf⟩ := List.mem_filterMap.mp hm
    rcases List.mem_cons.mp he with rfl | he
    · exact (Nh q hq).2.1 (Option.some.inj hf).symm
    · obtain ⟨o, ho, _⟩ := (K.frames.mem (List.mem_filterMap.mpr ⟨env, he, hf⟩)).2
      rw [(Nh q hq).2.2] at ho; cases ho
  have hen : (hideAll (hideAll s'.heap [e]) ((envOf name scope L a cd :: outer).filterMap (·.frame))).get? e = none := by
    cases q : (hideAll (hideAll s'.heap [e]) ((envOf name scope L a cd :: outer).filterMap (·.frame))).get? e with
    | none => rfl
    | some o => have := of_hideAll _ q; rw [hnew] at this; cases this
  refine wpAny_leaving_firstW (a0 := a0) K'.stack ((funFrames_hide K'.frames hin).of_keeps fun b o hb _ => ⟨o, keeps b o hb, rfl⟩) rfl he (fun b o hb => keeps b o (of_hideAll _ hb)) hen hd h1 h0 fun h' hL => ?_
  obtain ⟨k1, ⟨_, _, k2⟩, k3, k4⟩ := hL
  have R : RaisedSN base g outer e oe.cls news h' := ⟨_, a0, st, sg, hl, k1, hen, k2, k3⟩
  exact hQ h' R (((Heap.UpToSlots.of_keeps Fh.keep).trans (Heap.UpToSlots.of_keeps keeps)).trans k4)
end
end
section
set_option maxRecDepth 100000
set_option maxHeartbeats 8000000
section

noncomputable def TXR (w : World) (mean : ExcName → Option Value) (mg mb : Str → Option Value) (f : Addr) (sz : Nat) : Prop :=
  ∀ (es : List (Int × Int)) (v : Value) (t : Tok) (dp un : Nat) (gd : Option (List Code)) (cn : Str) (cs : Scope) (a : Addr) (ccd : Value) (cl : List (Str × Addr)) (outer : List Env) (A₀ : Around) (base h₀ : Heap) (L : Addr) (m : Str → Option Value) (news : List (Addr × Obj)) (s : Shared)
    (Q E : Value → Shared → Prop),
    Below A₀ base outer h₀ → Fr h₀ L s.heap m → (heap w.params).In h₀ → News h₀ L s.heap news → Top view (looseW view [Str.ofString "best_table"]) mean mg mb h₀ → cs.kind = .function → DictI w news v es → es.length < 60 → 8 < (worthRows es).length + 1 → dp + sz < recursionLimit → un + 8 * sz < cLine →
    (∀ h' e tk' g, Fr h₀ L g m → RaisedSN base g (envX cn cs L a ccd cl :: outer) e (.ref 44) news h' → g.UpToSlots h' → E (.ref e) { s with heap := h', toks := tk' }) →
    wpAny (model PySem.Challenge.rw_nt0548_01.row.prog w) (ktrTop dp un gd cn cs L a ccd cl outer) (call (.ref f) [v, .int 3 t]) Q E s
theorem sizes_refuse (w : World) (mean mg mb) : TXR w mean mg mb 84 20 := by
  unfold TXR; k_fill
  intro es v t dp un gd cn cs a ccd cl outer A₀ base h₀ L m news s Q E B F X N T hk hR hok1 hok2 hd hu hret
  have ks0 : KS "pyIter ref" := ⟨⟩; have ks1 : KS "call ref" := ⟨⟩; have ks2 : KS "binaryOp Add ref ref" := ⟨⟩; have ks3 : KS "binaryOp Pow int int" := ⟨⟩; have ks4 : KS "compareOp Eq ref ref" := ⟨⟩; have ks5 : KS "exec Raise some none" := ⟨⟩; have ks6 : KS "exec For" := ⟨⟩; have ks7 : KS "leaving ref" := ⟨⟩; have ks8 : KS "len_at" := ⟨⟩
  have ks9 : KS "enterD" := ⟨⟩
  have kM := kdMark
  have kM2 := kstMark
  have hcL := cLine_is
  refine wpAny_call ?_
  k_dflt ktr_enter
  refine tok_in (g := s.gens) (d := s.drawn) (o := s.os) fun tk00 => ?_
  k_steps
  rename_i g' L' h' FG F1 N1 B1 X1 T1
  unfold Stop
  refine tx_use (worth_tells w mean mg mb) es B1 F1 X1 N1 T1 rfl ⟨_, rfl, hR⟩ hok1 (by show dp + 1 + 4 < recursionLimit; omega) (by show un + 3 + 8 * 4 < cLine; omega) ?_
  rintro r tl h2 tk2 F2 N2 hO2 ⟨rs, hp, hpw, hr⟩
  cases hr
  rename_i lc us nc hlc hDc
  simp [List.lookup_cons, show (Str.ofString "most" == Str.ofString "frequencies") = false from by decide] at F2
  clear F1 N1
  k_steps
  rename_i l1 h4 F4 N4 lt4
  unfold Stop
  refine eq_nilL N4 (List.mem_cons_of_mem _ hlc) hDc (fun p hp => List.mem_cons_of_mem _ hp) List.mem_cons_self (coins_ok _) (by show un + 3 + 64 < cLine; omega) ?_
  have hrs : rs ≠ [] := by
    intro e
    have := hp.length_eq
    rw [e] at this
    simp at this
    omega
  have hne : (coinsD (rs.map coinOf)).isEmpty = false := by cases rs <;> simp_all [coinsD]
  rw [hne]
  have hul : us.length = rs.length := by have := hDc.length; simpa [coinsD] using this
  have hrl : rs.length ≤ es.length := by rw [hp.length_eq]; unfold worthRows; rw [List.length_map]; exact List.length_filter_le _ _
  have hrl8 : 8 ≤ rs.length := by rw [hp.length_eq]; omega
  k_steps
  rename_i l2 h5 lt5 D3 h6 lt6 l4 h7 F7 N7 lt7
  unfold Stop
  refine add_known F7 N7 (vs := [Value.ref D3]) List.mem_cons_self (List.mem_cons_of_mem _ (List.mem_cons_of_mem _ (List.mem_cons_of_mem _ (List.mem_cons_of_mem _ hlc)))) (by rw [List.length_singleton, sizeLine_eq]; omega) ?_
  intro lr h8 F8 N8 lt8
  clear F7 N7
  k_lt lt8
  have hrow : ([Value.ref D3] ++ us).length = rs.length + 1 := by rw [List.length_append, List.length_singleton]; omega
  dsimp only
  k_steps
  unfold Stop
  dsimp only
  refine pow_int (by omega) (by rw [show (Builtin.Int.intBits 2 : Int) = 2 from by decide]; omega) ?_
  rw [show (2 : Int) ^ (Int.toNat 3) = 8 from by decide]
  dsimp only
  k_steps
  all_goals (try (exfalso; omega))
  rename_i h9 F9 N9 _
  unfold Stop
  have hex : exIn (Mine.heap w.params) 44 = true := by rfl
  obtain ⟨nm, qn, Nn, bs, bm, hdct, sn, sub, ab, col, dd, k0, k1, k2, k3, k5, hC, hb1, hb2, hb3, hb4⟩ := ex_cls hex
  k_dflt (refine Raise_callX (K := Mine.heap w.params) (C := 44) (fI := 28) (nm := nm) (q := qn) (N := Nn) (bs := bs) (bm := bm) (hdct := hdct) (sn := sn) (sub := sub) (ab := ab) (col := col) (dd := dd) (k0 := k0) (k1 := k1) (k2 := k2) (k3 := k3) (k5 := k5) PySem.F.excBase_Exception hb2 hb1 hb3 hb4 (by k_is) (by k_is) rfl (by rfl) ?_)
  k_steps
  k_dflt (refine Calls.evalArgs_plain (Calls.spliced_cons (Calls.Constant_str (k := 0) (pos := ⟨40, 25, 40, 76⟩) (Calls.spliced_nil ?_))))
  dsimp only
  have X9 := X1.keeps F9.keep
  refine ⟨rfl, by size_fits, hC _ X9, X9, ?_⟩
  intro h10 e hm
  obtain ⟨hk1, hk2, t0, hk3, hk4, hk5⟩ := hm
  obtain ⟨R9, N10, hsub⟩ : ∃ R9, News g' L' h9 R9 ∧ ∀ p ∈ news, p ∈ R9 := ⟨_, N9, fun p hp => by simp [hp]⟩
  have hlt : ∀ p ∈ R9, p.1 ≠ e := fun p hp q => by
    have := (N10 p hp).1
    rw [q] at this
    exact absurd (hk2.symm.trans this) (by first | k_mem | simp)
  have hlt0 : ∀ p ∈ R9, p.1 ≠ t0 := fun p hp q => by
    have := (N10 p hp).1
    rw [q] at this
    exact absurd (hk4.symm.trans this) (by first | k_mem | simp)
  have hte : t0 ≠ e := fun q => by
    rw [q, hk3] at hk5
    cases hk5
  have hg0 : ∀ b, h9.get? b = none → g'.get? b = none := fun b q => by
    cases q2 : g'.get? b with
    | none => rfl
    | some o => have := F9.keep _ _ q2; rw [q] at this; cases this
  have hbL : ∀ b, h9.get? b = none → b ≠ L' := fun b q q2 => by
    obtain ⟨oL, es, ep, hL, r⟩ := F9.ns
    rw [q2, hL] at q; cases q
  have F10 : Fr g' L' h10 _ := F9.keeps hk1
  have N11 : News g' L' h10 ((e, excO t0 #[]) :: (t0, ({ cls := .type "tuple", data := .seq [Value.str (Str.ofString "there are too many symbols for codes of this size") tk].toArray } : Obj)) :: R9) := by
    intro p hp
    rcases List.mem_cons.mp hp with rfl | hp
    · exact ⟨hk3, hbL _ hk2, hg0 _ hk2⟩
    · rcases List.mem_cons.mp hp with rfl | hp
      · exact ⟨hk5, hbL _ hk4, hg0 _ hk4⟩
      · exact ⟨hk1 _ _ (N10 p hp).1, (N10 p hp).2⟩
  refine init_walk w mean mg mb e t0 _ _ #[] R9 _ _ _ _ _ _ _ _ _ _ _ _ _ _ _ _ _ B1 F10 X1 N11 hte hlt T1 rfl (by show dp + 1 + 1 + 4 < recursionLimit; omega) (by show un + 3 + 1 + 8 * 4 < cLine; omega) ?_
  intro h11 tk11 od t2 sl2 F11 N12 hE
  dsimp only
  refine ⟨rfl, hC _ (X1.keeps F11.keep), ⟨od, _, sl2, rfl, hE⟩, ?_⟩
  k_steps
  unfold Stop
  refine leave_newX (a0 := .ref t2) B1 hE rfl rfl rfl (hg0 e hk2) (hbL e hk2) F11 (fun p hp => N12 p (hsub p hp)) (fun p hp => hlt p (hsub p hp)) ?_
  intro h12 R U
  exact hret h12 e _ g' FG R U
theorem best_refuse (w : World) (mean mg mb) : TXR w mean mg mb 97 24 := by
  unfold TXR; k_fill
  intro es v t dp un gd cn cs a ccd cl outer A₀ base h₀ L m news s Q E B F X N T hk hR hok1 hok2 hd hu hret
  have ks0 : KS "pyIter ref" := ⟨⟩; have ks1 : KS "call ref" := ⟨⟩; have ks2 : KS "binaryOp Add ref ref" := ⟨⟩; have ks3 : KS "binaryOp Pow int int" := ⟨⟩; have ks4 : KS "compareOp Eq ref ref" := ⟨⟩; have ks5 : KS "exec Raise some none" := ⟨⟩; have ks6 : KS "exec For" := ⟨⟩; have ks7 : KS "leaving ref" := ⟨⟩; have ks8 : KS "len_at" := ⟨⟩
  have ks9 : KS "enterD" := ⟨⟩
  have kM := kdMark
  have kM2 := kstMark
  have hcL := cLine_is
  refine wpAny_call ?_
  k_dflt ktr_enter
  refine tok_in (g := s.gens) (d := s.drawn) (o := s.os) fun tk00 => ?_
  k_steps
  rename_i g1 L1 h1 FG1 F1 N1 B1 X1 T1
  unfold Stop
  refine sizes_refuse w mean mg mb es v t _ _ _ _ _ _ _ _ _ _ _ _ _ _ news _ _ _ B1 F1 X1 N1 T1 rfl hR hok1 hok2 (by show dp + 1 + 20 < recursionLimit; omega) (by show un + 3 + 8 * 20 < cLine; omega) ?_
  intro h2 e tk2 g2 FG2 R U
  k_steps
  unfold Stop
  refine leave_onSN B1 FG2 R U ?_
  intro h3 R3 _ U3
  exact hret h3 e _ g1 FG1 R3 U3
end
end
section
set_option maxRecDepth 100000
noncomputable def es7 (fs : List Int) : List (Int × Int) := fs.zipIdx.map fun p => ((p.2 : Int), p.1)
theorem es7_snoc (fs : List Int) (f : Int) : es7 (fs ++ [f]) = es7 fs ++ [((fs.length : Int), f)] := by
  simp [es7, List.zipIdx_append]
theorem es7_length (fs : List Int) : (es7 fs).length = fs.length := by simp [es7]
theorem es7_keys (fs : List Int) : (es7 fs).map (·.1) = (List.range fs.length).map fun (k : Nat) => (k : Int) := by
  simp only [es7, List.map_map, Function.comp_def]
  apply List.ext_getElem
  · simp
  · intro i h1 h2
    simp
theorem es7_pos {fs : List Int} (h : ∀ f ∈ fs, 1 ≤ f) : ∀ e ∈ es7 fs, 1 ≤ e.2 := by
  intro e he
  obtain ⟨p, hp, rfl⟩ := List.mem_map.mp he
  exact h _ (List.fst_mem_of_mem_zipIdx hp)
theorem worth_length {es : List (Int × Int)} (h : ∀ e ∈ es, 1 ≤ e.2) : (worthRows es).length = es.length := by
  unfold worthRows
  rw [List.length_map, List.filter_eq_self.mpr fun e he => decide_eq_true (by have := h e he; omega)]
theorem worth_zero {rs : List (Int × Int)} (h : rs.Perm (worthRows [(100, 0)])) : rs = [] := by
  have e : worthRows [(100, 0)] = [] := by decide
  rw [e] at h
  exact h.eq_nil
theorem worth_nine {rs : List (Int × Int)} (h : rs.Perm (worthRows [(9, 4)])) : rs = [(4, -9)] := by
  have e : worthRows [(9, 4)] = [(4, -9)] := by decide
  rw [e] at h
  exact h.eq_singleton
end
section
set_option maxRecDepth 100000
/-! labels turned -/
noncomputable def turnC (f : Int → Int) (c : Coin) : Coin := (c.1, c.2.map f)
theorem mergeC_turn (f : Int → Int) : ∀ xs ys : List Coin, mergeC (xs.map (turnC f)) (ys.map (turnC f)) = (mergeC xs ys).map (turnC f)
  | [], ys => by simp [mergeC]
  | c :: cs, [] => by simp [mergeC]
  | c :: cs, p :: ps => by
    have h1 := mergeC_turn f cs (p :: ps)
    have h2 := mergeC_turn f (c :: cs) ps
    simp only [List.map_cons] at h1 h2 ⊢
    rw [mergeC, mergeC]
    show (if c.1 ≤ p.1 then _ else _) = _
    split
    · rw [h1]; rfl
    · rw [h2]; rfl
termination_by a b => a.length + b.length
theorem packC_turn (f : Int → Int) : ∀ xs : List Coin, packC (xs.map (turnC f)) = (packC xs).map (turnC f)
  | [] => rfl
  | [a] => rfl
  | a :: b :: r => by
    simp only [List.map_cons, packC]
    rw [packC_turn f r]
    simp [turnC]
theorem rowOf_turn (f : Int → Int) (cs : List Coin) : ∀ k, rowOf (cs.map (turnC f)) k = (rowOf cs k).map (turnC f)
  | 0 => rfl
  | k + 1 => by rw [rowOf, rowOf, rowOf_turn f cs k, packC_turn, mergeC_turn]
theorem chosen_turn (f : Int → Int) (hf : f (-1) = -1) (cs : List Coin) (m : Nat) : chosen (cs.map (turnC f)) m = (chosen cs m).map f := by
  unfold chosen
  have e : ((0, [-1]) :: cs.map (turnC f) : List Coin) = ((0, [-1]) :: cs).map (turnC f) := by
    rw [List.map_cons]
    show _ = ((0, [f (-1)]) :: _ : List Coin)
    rw [hf]
  rw [e, rowOf_turn, List.length_map, ← List.map_take]
  generalize (rowOf ((0, [-1]) :: cs) (m - 1)).take (2 * cs.length) = l
  induction l with
  | nil => rfl
  | cons c l ih => rw [List.map_cons, List.flatMap_cons, List.flatMap_cons, List.map_append, ih]; rfl
/-! counting -/
theorem bump_keys (es : List (Int × Int)) (k : Int) : (bump es k).map (·.1) = if k ∈ es.map (·.1) then es.map (·.1) else es.map (·.1) ++ [k] := by
  unfold bump
  by_cases h : k ∈ es.map (·.1)
  · have h1 : (es.any fun e => e.1 = k) = true := by
      obtain ⟨e, he, hk⟩ := List.mem_map.mp h
      exact List.any_eq_true.mpr ⟨e, he, by simpa using hk⟩
    rw [if_pos h1, if_pos h, List.map_map]
    refine List.map_congr_left fun e _ => ?_
    simp only [Function.comp]
    split <;> rfl
  · have h1 : ¬ (es.any fun e => e.1 = k) = true := by
      intro h2
      obtain ⟨e, he, hk⟩ := List.any_eq_true.mp h2
      exact h (List.mem_map.mpr ⟨e, he, by simpa using hk⟩)
    rw [if_neg h1, if_neg h, List.map_append]
    rfl
theorem countAll_is : ∀ (r : List Int), (((countAll r.reverse).map (·.1)).Nodup) ∧ ∀ e : Int × Int, e ∈ countAll r.reverse ↔ e.1 ∈ r ∧ e.2 = (r.count e.1 : Int)
  | [] => ⟨List.nodup_nil, fun e => by simp [countAll]⟩
  | k :: r => by
    obtain ⟨h1, h2⟩ := countAll_is r
    rw [List.reverse_cons, countAll_snoc]
    have hk : k ∈ (countAll r.reverse).map (·.1) ↔ k ∈ r := by
      constructor
      · intro h
        obtain ⟨e, he, rfl⟩ := List.mem_map.mp h
        exact ((h2 e).mp he).1
      · intro h
        exact List.mem_map.mpr ⟨(k, (r.count k : Int)), (h2 _).mpr ⟨h, rfl⟩, rfl⟩
    constructor
    · rw [bump_keys]
      split
      · exact h1
      · rename_i hn
        rw [List.nodup_append]
        refine ⟨h1, by simp, ?_⟩
        intro a ha b hb
        rw [List.mem_singleton.mp hb]
        intro e
        exact hn (e ▸ ha)
    · intro e
      obtain ⟨x, z⟩ := e
      unfold bump
      by_cases hm : k ∈ r
      · have ha : ((countAll r.reverse).any fun e => e.1 = k) = true := by
          obtain ⟨e, he, hk'⟩ := List.mem_map.mp (hk.mpr hm)
          exact List.any_eq_true.mpr ⟨e, he, by simpa using hk'⟩
        rw [if_pos ha, List.mem_map]
        constructor
        · rintro ⟨e, he, heq⟩
          have h3 := (h2 e).mp he
          split at heq
          · rename_i hek
            cases heq
            refine ⟨by rw [hek]; exact List.mem_cons_self, ?_⟩
            show e.2 + 1 = _
            rw [h3.2, hek, List.count_cons_self]
            simp
          · rename_i hek
            subst heq
            refine ⟨List.mem_cons_of_mem _ h3.1, ?_⟩
            rw [h3.2, List.count_cons_of_ne (fun h => hek (by rw [h]))]
        · rintro ⟨hx, hz⟩
          by_cases hxk : x = k
          · subst hxk
            refine ⟨(x, (r.count x : Int)), (h2 _).mpr ⟨hm, rfl⟩, ?_⟩
            rw [if_pos rfl]
            dsimp only at hz
            rw [hz, List.count_cons_self]
            simp
          · have hxr : x ∈ r := (List.mem_cons.mp hx).resolve_left hxk
            refine ⟨(x, z), (h2 _).mpr ⟨hxr, ?_⟩, by rw [if_neg hxk]⟩
            dsimp only at hz ⊢
            rw [hz, List.count_cons_of_ne (fun h => hxk h.symm)]
      · have ha : ¬ ((countAll r.reverse).any fun e => e.1 = k) = true := by
          intro h3
          obtain ⟨e, he, hk'⟩ := List.any_eq_true.mp h3
          exact hm (hk.mp (List.mem_map.mpr ⟨e, he, by simpa using hk'⟩))
        rw [if_neg ha, List.mem_append, List.mem_singleton]
        constructor
        · rintro (he | he)
          · have h3 := (h2 _).mp he
            refine ⟨List.mem_cons_of_mem _ h3.1, ?_⟩
            have hne : x ≠ k := fun h => hm (h ▸ h3.1)
            rw [h3.2, List.count_cons_of_ne (fun h => hne h.symm)]
          · cases he
            refine ⟨List.mem_cons_self, ?_⟩
            rw [List.count_cons_self, List.count_eq_zero.mpr hm]
            rfl
        · rintro ⟨hx, hz⟩
          rcases List.mem_cons.mp hx with hxk | hxr
          · right
            dsimp only at hxk hz
            subst hxk
            rw [hz, List.count_cons_self, List.count_eq_zero.mpr hm]
            rfl
          · left
            refine (h2 _).mpr ⟨hxr, ?_⟩
            have hne : x ≠ k := fun h => hm (h ▸ hxr)
            dsimp only at hz ⊢
            rw [hz, List.count_cons_of_ne (fun h => hne h.symm)]
theorem countAll_nodup (l : List Int) : ((countAll l).map (·.1)).Nodup := by
  have := (countAll_is l.reverse).1
  rwa [List.reverse_reverse] at this
theorem mem_count (l : List Int) (e : Int × Int) : e ∈ countAll l ↔ e.1 ∈ l ∧ e.2 = (l.count e.1 : Int) := by
  have := (countAll_is l.reverse).2 e
  rw [List.reverse_reverse, List.mem_reverse, List.count_reverse] at this
  exact this
/-- sizes told by the counts -/
theorem sizes_perm {cs : List Coin} (hne : cs ≠ []) {m : Nat} {P : List (Int × Int)} (hn : P.Nodup) (hP : ∀ e, e ∈ P ↔ e.1 ∈ chosen cs m ∧ e.1 ≠ -1 ∧ e.2 = ((chosen cs m).count e.1 : Int)) : (sizesOf cs m).Perm P := by
  unfold sizesOf
  rw [if_neg hne]
  refine (List.perm_ext_iff_of_nodup ?_ hn).mpr ?_
  · have h1 := countAll_nodup (chosen cs m)
    have h2 : (countAll (chosen cs m)).Nodup := by
      rw [List.Nodup, List.pairwise_map] at h1
      exact h1.imp fun {a b} h (e : a = b) => h (congrArg (·.1) e)
    exact h2.filter _
  · intro e
    rw [List.mem_filter, mem_count, hP]
    constructor
    · rintro ⟨⟨a, b⟩, c⟩
      exact ⟨a, by simpa using c, b⟩
    · rintro ⟨a, b, c⟩
      exact ⟨⟨a, c⟩, by simpa using b⟩
/-! tally -/
theorem tick_comm {c : List Int} {y z : Int} (hy : 1 ≤ y) (hz : 1 ≤ z) : tick (tick c y) z = tick (tick c z) y := by
  by_cases h : y = z
  · rw [h]
  · unfold tick
    have hne : (y - 1).toNat ≠ (z - 1).toNat := by omega
    generalize (y - 1).toNat = i at hne ⊢
    generalize (z - 1).toNat = j at hne ⊢
    have e1 : (c.set i (c.getD i 0 + 1)).getD j 0 = c.getD j 0 := by
      simp [List.getD, List.getElem?_set, hne]
    have e2 : (c.set j (c.getD j 0 + 1)).getD i 0 = c.getD i 0 := by
      simp [List.getD, List.getElem?_set, Ne.symm hne]
    rw [e1, e2, List.set_comm _ _ hne]
theorem tally_perm {es gs : List (Int × Int)} (h : es.Perm gs) (hp : ∀ e ∈ es, 1 ≤ e.2) : tally es = tally gs := by
  unfold tally
  generalize List.replicate 16 (0 : Int) = c
  induction h generalizing c with
  | nil => rfl
  | cons x _ ih => exact ih (fun e he => hp e (List.mem_cons_of_mem _ he)) _
  | swap x y l =>
    simp only [List.foldl_cons]
    rw [tick_comm (hp y List.mem_cons_self) (hp x (List.mem_cons_of_mem _ List.mem_cons_self))]
  | trans h1 _ ih1 ih2 => rw [ih1 hp, ih2 fun e he => hp e (h1.mem_iff.mpr he)]
noncomputable def tallyX (X : List Int) : List Int := X.foldl tick (List.replicate 16 0)
theorem tally_snd (es : List (Int × Int)) : tally es = tallyX (es.map (·.2)) := by
  unfold tally tallyX
  rw [List.foldl_map]
end
section
set_option maxRecDepth 100000
set_option maxHeartbeats 2000000
theorem nine_row : ∀ k, rowOf [(0, [-1]), (4, [9])] (k + 1) = [(0, [-1]), (4, [9]), (4, [-1, 9])]
  | 0 => by simp [rowOf, packC, mergeC]
  | k + 1 => by rw [rowOf, nine_row k]; simp [packC, mergeC]
theorem sizes_nine : sizesOf ([(4, -9)].map coinOf) 16 = [(9, 1)] := by
  have e : ([((4 : Int), (-9 : Int))].map coinOf) = [(4, [9])] := rfl
  rw [e]
  unfold sizesOf chosen
  rw [if_neg (by simp)]
  have e2 : rowOf ((0, [-1]) :: [((4 : Int), [(9 : Int)])]) (16 - 1) = [(0, [-1]), (4, [9]), (4, [-1, 9])] := nine_row 14
  rw [e2]
  decide
noncomputable def labs (l : List Coin) : List Int := l.flatMap (·.2)
theorem packC_labs : ∀ l : List Coin, l.length % 2 = 0 → labs (packC l) = labs l
  | [], _ => rfl
  | [a], h => by simp at h
  | a :: b :: r, h => by
    have ih := packC_labs r (by simp only [List.length_cons] at h; omega)
    simp only [labs, packC, List.flatMap_cons] at ih ⊢
    rw [ih, List.append_assoc]
theorem mergeC_labs : ∀ xs ys : List Coin, (labs (mergeC xs ys)).Perm (labs xs ++ labs ys)
  | [], ys => by simp [mergeC, labs]
  | c :: cs, [] => by simp [mergeC, labs]
  | c :: cs, p :: ps => by
    rw [mergeC]
    split
    · have h := mergeC_labs cs (p :: ps)
      simp only [labs, List.flatMap_cons] at h ⊢
      rw [List.append_assoc]
      exact h.append_left _
    · have h := mergeC_labs (c :: cs) ps
      simp only [labs, List.flatMap_cons] at h ⊢
      refine (h.append_left p.2).trans ?_
      have h9 : ∀ A B C : List Int, (A ++ (B ++ C)).Perm (B ++ (A ++ C)) := by
        intro A B C
        rw [← List.append_assoc, ← List.append_assoc]
        exact List.perm_append_comm.append_right _
      exact h9 _ _ _
termination_by a b => a.length + b.length
theorem chosen_seven {cs : List Coin} (hl : cs.length = 7) : (chosen cs 3).Perm (((-1) :: labs cs) ++ (((-1) :: labs cs) ++ ((-1) :: labs cs))) := by
  unfold chosen
  have c8 : (((0, [-1]) :: cs : List Coin)).length = 8 := by simp [hl]
  have eL : labs ((0, [-1]) :: cs) = (-1) :: labs cs := rfl
  obtain ⟨C, hC⟩ : ∃ C : List Coin, ((0, [-1]) :: cs) = C := ⟨_, rfl⟩
  rw [hC] at c8 eL ⊢
  have r1l : (rowOf C 1).length = 12 := by rw [rowOf, rowOf, mergeC_length, packC_length, c8]
  have r2l : (rowOf C 2).length = 14 := by rw [rowOf, mergeC_length, packC_length, r1l, c8]
  have e : (rowOf C (3 - 1)).take (2 * cs.length) = rowOf C 2 := List.take_of_length_le (by rw [hl]; show (rowOf C 2).length ≤ 14; omega)
  rw [e]
  show (labs (rowOf C 2)).Perm _
  have h1 : (labs (rowOf C 1)).Perm (labs C ++ labs C) := by
    have h := mergeC_labs C (packC C)
    rw [packC_labs C (by omega)] at h
    exact h
  have h2 := mergeC_labs C (packC (rowOf C 1))
  rw [packC_labs _ (by omega)] at h2
  rw [← eL]
  exact h2.trans (h1.append_left _)
theorem labs_coins (rs : List (Int × Int)) : labs (rs.map coinOf) = rs.map fun r => -r.2 := by
  induction rs with
  | nil => rfl
  | cons r rs ih =>
    rw [List.map_cons, List.map_cons, ← ih]
    rfl
theorem seven_sizes {fs : List Int} (hl : fs.length = 7) (hf : ∀ f ∈ fs, 1 ≤ f) {rs : List (Int × Int)} (hp : rs.Perm (worthRows (es7 fs))) (hpw : rs.Pairwise (fun a b => lexlt a b = true)) :
    (sizesOf (rs.map coinOf) 3).Perm [(0, 3), (1, 3), (2, 3), (3, 3), (4, 3), (5, 3), (6, 3)] := by
  have hw : worthRows (es7 fs) = (es7 fs).map fun e => (e.2, -e.1) := by
    unfold worthRows
    rw [List.filter_eq_self.mpr fun e he => decide_eq_true (by have := es7_pos hf e he; omega)]
  have hsy : (rs.map fun r => -r.2).Perm [0, 1, 2, 3, 4, 5, 6] := by
    rw [hw] at hp
    have h1 := hp.map fun r => -r.2
    rw [List.map_map] at h1
    have e : (es7 fs).map ((fun r : Int × Int => -r.2) ∘ fun e => (e.2, -e.1)) = (es7 fs).map (·.1) := by
      refine List.map_congr_left fun e _ => ?_
      simp
    rw [e, es7_keys, hl] at h1
    exact h1
  have hrl : rs.length = 7 := by rw [hp.length_eq, hw, List.length_map, es7_length, hl]
  have hch := chosen_seven (cs := rs.map coinOf) (by rw [List.length_map, hrl])
  rw [labs_coins] at hch
  have h9 : (chosen (rs.map coinOf) 3).Perm ((-1 :: [0, 1, 2, 3, 4, 5, 6]) ++ ((-1 :: [0, 1, 2, 3, 4, 5, 6]) ++ (-1 :: [0, 1, 2, 3, 4, 5, 6]))) :=
    hch.trans ((hsy.cons _).append ((hsy.cons _).append (hsy.cons _)))
  refine sizes_perm ?_ (by decide) ?_
  · intro h
    have := congrArg List.length h
    rw [List.length_map, hrl] at this
    simp at this
  · intro e
    obtain ⟨x, z⟩ := e
    dsimp only
    rw [h9.mem_iff, h9.count_eq]
    have hP : (x, z) ∈ [((0 : Int), (3 : Int)), (1, 3), (2, 3), (3, 3), (4, 3), (5, 3), (6, 3)] ↔ (x = 0 ∨ x = 1 ∨ x = 2 ∨ x = 3 ∨ x = 4 ∨ x = 5 ∨ x = 6) ∧ z = 3 := by
      simp only [List.mem_cons, List.not_mem_nil, or_false, Prod.mk.injEq]
      constructor
      · rintro (h | h | h | h | h | h | h) <;> simp [h]
      · rintro ⟨h, rfl⟩
        rcases h with h | h | h | h | h | h | h <;> simp [h]
    rw [hP]
    constructor
    · rintro ⟨h, rfl⟩
      rcases h with rfl | rfl | rfl | rfl | rfl | rfl | rfl <;> decide
    · rintro ⟨hm, hn, hz⟩
      have hx : x = 0 ∨ x = 1 ∨ x = 2 ∨ x = 3 ∨ x = 4 ∨ x = 5 ∨ x = 6 := by
        simp only [List.cons_append, List.nil_append, List.mem_cons, List.not_mem_nil, or_false] at hm
        omega
      refine ⟨hx, ?_⟩
      rw [hz]
      rcases hx with rfl | rfl | rfl | rfl | rfl | rfl | rfl <;> decide
theorem seven_tally {es : List (Int × Int)} (h : es.Perm [(0, 3), (1, 3), (2, 3), (3, 3), (4, 3), (5, 3), (6, 3)]) : tally es = [0, 0, 7, 0, 0, 0, 0, 0, 0, 0, 0, 0, 0, 0, 0, 0] := by
  rw [tally_perm h fun e he => ?_]
  · decide +kernel
  · have := h.mem_iff.mp he
    simp only [List.mem_cons, List.not_mem_nil, or_false] at this
    rcases this with rfl | rfl | rfl | rfl | rfl | rfl | rfl <;> decide
theorem seven_syms {es ts : List (Int × Int)} (h : es.Perm [(0, 3), (1, 3), (2, 3), (3, 3), (4, 3), (5, 3), (6, 3)]) (h2 : ts.Perm (es.map fun e => (e.2, e.1))) (hpw : ts.Pairwise (fun a b => lexlt a b = true)) : ts.map (·.2) = [0, 1, 2, 3, 4, 5, 6] := by
  have h3 : ts.Perm [(3, 0), (3, 1), (3, 2), (3, 3), (3, 4), (3, 5), (3, 6)] := h2.trans (h.map _)
  have e : ts = [(3, 0), (3, 1), (3, 2), (3, 3), (3, 4), (3, 5), (3, 6)] := by
    refine h3.eq_of_pairwise (le := fun a b => lexlt a b = true) ?_ hpw (by decide)
    intro a b _ _ h1 h2
    have q1 := of_decide_eq_true h1
    have q2 := of_decide_eq_true h2
    omega
  rw [e]
  rfl
end
section
set_option maxRecDepth 100000
set_option maxHeartbeats 8000000
open Sem (wp)
open Builtin
theorem noFill_tuple_mul : fillsNumberSlot (.type "tuple") "mul" = pure false :=
  PySem.fillsNumberSlot_seq (id := "tuple.__mul__") (r := some (.builtin "tuple.__rmul__")) F.slot_tuple_mul.lookup (by decide +kernel) F.slot_tuple_rmul.lookup (by decide +kernel)
theorem repeat_tuple : seqRepeat? (.type "tuple") = pure (some (.builtin "tuple.__mul__")) := by
  unfold seqRepeat?
  rw [PySem.seqSlot_of (T := "tuple") (name := "__mul__") (id := "tuple.__mul__") F.slot_tuple_mul.lookup (by decide +kernel), PySem.seqSlot_of (T := "tuple") (name := "__rmul__") (id := "tuple.__rmul__") F.slot_tuple_rmul.lookup (by decide +kernel)]
  rfl
theorem int_rmul_tuple (a : Int) (t : Tok) (l : Addr) (items : Array Value) (n : Nat) :
    Meets (Builtin.«int.__rmul__» ⟨[.int a t, .ref l], []⟩) (fun _ R s => s.heap.get? l = some { cls := .type "tuple", dict := none, data := .seq items n, slots := #[] } ∧ R (.ok (.ret Value.notImplemented)) s) :=
  .of_wp fun prog w A R s h => by obtain ⟨hp, g, d, tk, os⟩ := s; obtain ⟨hl, h⟩ := h; wp_walk; exact ⟨_, rfl, h⟩
theorem tuple_mul (l : Addr) (items : Array Value) (n : Nat) (x : Int) (u : Tok) (hc0 : ¬(decide (x < -2 ^ 63) || decide (x ≥ 2 ^ 63)) = true) (hc1 : ¬(items.isEmpty || x == 1) = true) (hc2 : ¬(decide (x ≤ 0) || items.isEmpty) = true) (hc3 : ¬ items.size * x > (2 ^ 63 - 1) / 8) (hc4 : ¬Tuple.tupleTooMany (items.size * x) = true)
    (h6 : (List.foldl (fun x1 x2 => x1 ++ x2) #[] (List.replicate x.toNat items)).size ≤ sizeLine) :
    Meets (Builtin.«tuple.__mul__» ⟨[.ref l, .int x u], []⟩) (fun _ R s => s.heap.get? l = some { cls := .type "tuple", dict := none, data := .seq items n, slots := #[] } ∧ R (.ok (.ret (Value.ref s.heap.objs.size))) { s with heap := s.heap.push { cls := Value.type "tuple", data := Data.seq (List.foldl (fun x1 x2 => x1 ++ x2) #[] (List.replicate x.toNat items)) }, toks := s.toks }) :=
  .of_wp fun prog w A R s h => by
    obtain ⟨hp, g, d, tk, os⟩ := s; obtain ⟨hl, h⟩ := h
    wp_walk
    rw [if_neg hc0]
    dsimp only
    wp_walk
    rw [if_neg hc3]
    rw [if_neg hc4]
    wp_walk
    exact ⟨_, rfl, h⟩
section
variable {prog : Program} {w : World} {A : Around} {E : Value → Shared → Prop} {s : Shared} {h₀ : Heap} {L : Addr} {m : Str → Option Value} {news : List (Addr × Obj)}
theorem foldl_one (v : Value) : ∀ (k : Nat) (acc : Array Value), List.foldl (fun x1 x2 => x1 ++ x2) acc (List.replicate k #[v]) = acc ++ (List.replicate k v).toArray
  | 0, acc => by simp
  | k + 1, acc => by
    rw [List.replicate_succ, List.foldl_cons, foldl_one v k]
    apply Array.ext'
    simp [List.replicate_succ]
theorem mul_one {l : Addr} {k : Nat} {x : Nat} {u : Tok} {v : Value} {Q : Value → Shared → Prop}
    (Fm : Fr h₀ L s.heap m) (N : News h₀ L s.heap news) (hl : (l, ({ cls := .type "tuple", data := .seq #[v] k } : Obj)) ∈ news)
    {xi : Int} (hxi : xi = (x : Int)) (hlo : 2 ≤ x) (hhi : x ≤ 100)
    (h : ∀ h', Fr h₀ L h' m → News h₀ L h' ((s.heap.objs.size, { cls := .type "tuple", data := .seq (List.replicate x v).toArray }) :: news) → Q (.ref s.heap.objs.size) { s with heap := h' }) :
    wpAny (model prog w) A (binaryOp .Mult (.ref l) (.int xi u)) Q E s := by
  subst hxi
  have ho := (N _ hl).1
  have e : List.foldl (fun x1 x2 => x1 ++ x2) #[] (List.replicate (x : Int).toNat #[v]) = (List.replicate x v).toArray := by
    rw [foldl_one]; simp
  refine wpAny_binaryOp_repeat_ref (T := "tuple") (U := "int") (by decide) ⟨_, ho, rfl⟩ (fun s' => typeIs_int s' x u) noFill_tuple_mul F.fills_int_mul F.slot_int_rmul repeat_tuple F.slot_int_index.lookup
    (call_meets F.slot_int_rmul (typeIs_int s x u) F.entry_int_rmul (F.args_int_rmul_2 _ _) (int_rmul_tuple x u l #[v] k)
      ⟨ho, rfl, ⟨_, ho, rfl⟩, call_meets F.slot_tuple_mul ⟨_, ho, rfl⟩ F.entry_tuple_mul (F.args_tuple_mul_2 _ _)
        (tuple_mul l #[v] k x u ?_ ?_ ?_ ?_ ?_ ?_)
        ⟨ho, ?_⟩⟩)
  · simp; omega
  · simp; omega
  · simp; omega
  · simp; omega
  · simp [Tuple.tupleTooMany, sizeLine_eq]; omega
  · rw [e]; simp [sizeLine_eq]; omega
  · have := h _ (Fm.push { cls := .type "tuple", data := .seq (List.replicate x v).toArray }) (News.push Fm N _)
    rw [← e] at this
    exact this
theorem add_tupL {t b : Addr} {k k' : Nat} {vs ws : List Value} {Q : Value → Shared → Prop} (F : Fr h₀ L s.heap m) (N : News h₀ L s.heap news) (ht : (t, ({ cls := .type "tuple", data := .seq vs.toArray k } : Obj)) ∈ news) (hb : (b, ({ cls := .type "tuple", data := .seq ws.toArray k' } : Obj)) ∈ news)
    (hv : vs ≠ []) (hw : ws ≠ []) (hsz : vs.length + ws.length ≤ sizeLine)
    (h : ∀ h', Fr h₀ L h' m → News h₀ L h' ((s.heap.objs.size, { cls := .type "tuple", data := .seq (vs ++ ws).toArray }) :: news) → Q (.ref s.heap.objs.size) { s with heap := h' }) :
    wpAny (model prog w) A (binaryOp .Add (.ref t) (.ref b)) Q E s :=
  add_tuples F N ⟨_, (N _ ht).1, rfl, k, rfl⟩ ⟨_, (N _ hb).1, rfl, k', rfl⟩ (fun e => absurd e hv) (fun _ e => absurd e hw) (fun _ _ h' F' N' => h h' F' N') hsz
end
end
section
set_option maxRecDepth 100000
set_option maxHeartbeats 8000000
section
variable {prog : Program} {w : World} {A : Around} {E : Value → Shared → Prop} {s : Shared} {h₀ : Heap} {L : Addr} {news : List (Addr × Obj)} {a b : Value} {d e : Dat} {Q : Value → Shared → Prop}
open Classical in
theorem dat_ne (N : News h₀ L s.heap news) (Da : DatIn news a d) (Db : DatIn news b e) (ha : kqdOk 8 d = true) (hb : kqdOk 8 e = true) (hu : A.units + 64 < cLine) (h : Q (.bool (!decide (d = e))) s) :
    wpAny (model prog w) A (compareOp .NotEq a b) Q E s := by
  obtain ⟨as, ra⟩ := kqd_in N 8 Da ha
  obtain ⟨bs, rb⟩ := kqd_in N 8 Db hb
  have la := kqd_lay 8 d ha
  have lb := kqd_lay 8 e hb
  have eq : PyData.eqv (kqdP d) (kqdP e) = decide (d = e) := by
    have q := kqd_eqv 8 d e 8 ha hb
    by_cases hq : d = e
    · rw [decide_eq_true hq]; exact q.mpr hq
    · rw [decide_eq_false hq]; exact Bool.eq_false_iff.mpr fun x => hq (q.mp x)
  refine ne_dataH ra rb ?_ ?_ hu (by rw [eq]; exact h)
  · unfold SeqAt.shaped; rw [la.1, Bool.true_and]; exact decide_eq_true (Nat.le_trans la.2 (by decide))
  · unfold SeqAt.shaped; rw [lb.1, Bool.true_and]; exact decide_eq_true (Nat.le_trans lb.2 (by decide))
open Classical in
theorem dat_same (N : News h₀ L s.heap news) (Da : DatIn news a d) (Db : DatIn news b d) (ha : kqdOk 8 d = true) (hu : A.units + 64 < cLine) (h : Q (.bool false) s) :
    wpAny (model prog w) A (compareOp .NotEq a b) Q E s := by
  refine dat_ne N Da Db ha ha hu ?_
  rw [decide_eq_true rfl]
  exact h
end
section
variable {prog : Program} {w : World} {A₀ A : Around} {s : Shared} {base h₀ g₀ : Heap} {outer : List Env} {L a : Addr} {m : Str → Option Value} {cn : Str} {cs : Scope} {ccd : Value} {cl : List (Str × Addr)} {news : List (Addr × Obj)} {K : Frag} {p : Program} {loose : List Str} {mean : ExcName → Option Value} {mg mb : Str → Option Value}
    {R : Result → Shared → Prop} {name qual : Str} {params : Arguments} {body : List Stmt} {scope : Scope} {dV kV doc pm cdv ct oc : Value} {an od : Option Addr} {osl : Array (Option Value)} {f : Addr} {args : Args} {binds : List (Str × Value)}
theorem ktsX_enter (B : Below A₀ base outer h₀) (F : Fr h₀ L s.heap m) (N : News h₀ L s.heap news) (hA : A.frames = some (envX cn cs L a ccd cl :: outer)) (hck : cs.kind = .function) :
    ∃ oL es ep, (hideAll s.heap (news.map (·.1))).get? L = some oL ∧ oL.data = .dict es ep ∧ (∀ h', h'.get? L = some oL → Heap.Ns h' L m) ∧ (∀ (sl : Array (Option Value)) h', h'.get? L = some { oL with slots := sl } → Heap.Ns h' L m) ∧
      h₀.StaysIn (hideAll s.heap (news.map (·.1))) ∧ Below A base (envX cn cs L a ccd cl :: outer) (hideAll s.heap (news.map (·.1))) := by
  have nm : ∀ b o, h₀.get? b = some o → b ∉ news.map (·.1) := fun b o e q => by
    obtain ⟨p, hp, rfl⟩ := List.mem_map.mp q
    rw [(N p hp).2.2] at e; cases e
  have st : h₀.StaysIn (hideAll s.heap (news.map (·.1))) := fun b o e => hideAll_get _ (F.keep b o e) (nm b o e)
  obtain ⟨oL, es, ep, hL, hLd, hLk, hLf⟩ := F.ns
  have nL : L ∉ news.map (·.1) := fun q => by
    obtain ⟨p, hp, e⟩ := List.mem_map.mp q
    exact (N p hp).2.1 e
  have hLg := hideAll_get (news.map (·.1)) hL nL
  have B₁ := pushX (env := envX cn cs L a ccd cl) B F rfl hck
  exact ⟨oL, es, ep, hLg, hLd, fun h' e => ⟨oL, es, ep, e, hLd, hLk, hLf⟩, fun sl h' e => ⟨_, es, ep, e, hLd, hLk, hLf⟩, st, ⟨hA, fun b o e => st b o (B.stays b o e), funFrames_hideAll B₁.frames fun env he b hb hf => by
    cases he with
    | head => exact nL ((Option.some.inj hf : L = b) ▸ hb)
    | tail _ he =>
      obtain ⟨L₁, o₁, hf₁, ho₁⟩ := funFrames_in B.frames env he
      rw [hf₁] at hf
      exact nm L₁ o₁ ho₁ ((Option.some.inj hf : L₁ = b) ▸ hb)⟩⟩
theorem ktsX_mem {b : Addr} (hm : b ∈ [envX cn cs L a ccd cl].filterMap (·.frame)) : b = L := by
  obtain ⟨env, he, hf⟩ := List.mem_filterMap.mp hm
  rw [List.mem_singleton.mp he] at hf
  exact (Option.some.inj hf).symm
theorem code_defSX (B : Below A₀ base [] h₀) (F : Fr h₀ L s.heap m) (X₀ : K.In h₀) (N : News h₀ L s.heap news) (T : Top p loose mean mg mb h₀) (hA : A.frames = some [envX cn cs L a ccd cl])
    (ho : K.lookup f = some ⟨oc, od, .func (fnOf name qual params body scope dV kV doc pm an cdv ct), osl⟩) (hcd : codeIn K cdv qual = true) (hroom : A.depth < recursionLimit)
    (hbind : BindsTo s (fnOf name qual params body scope dV kV doc pm an cdv ct) args binds) (hloc : ∀ y ∈ binds, scope.names.lookup y.1 = some .local)
    (h : ∀ g L' h₁, Fr h₀ L g m → Fr g L' h₁ (fun y => binds.reverse.lookup y) → News g L' h₁ news → Below A base [envX cn cs L a ccd cl] g → K.In g → Top p loose mean mg mb g → KtsDicts ([envX cn cs L a ccd cl].filterMap (·.frame)) g →
      wpAny (model prog w) (A.deeper (envOf qual scope L' f cdv)) (execs body (envOf qual scope L' f cdv))
        (fun fl s' => LeaveS0 ([envX cn cs L a ccd cl].filterMap (·.frame)) h₀ L m g R (match fl with | .ret v => v | _ => .none) s')
        (fun e s' => wpAny (model prog w) (A.deeper (envOf qual scope L' f cdv)) (leaving (envOf qual scope L' f cdv) e) (fun _ s'' => R (.error e) s'') (fun e' s'' => R (.error e') s'') s')
        { s with heap := h₁, toks := s.toks + binds.length })
    (hck : cs.kind = .function) (hco : scope.isCoroutine = false) (hgen : scope.isGenerator = false) (hk : scope.kind = .function)
    (hcell : ∀ x ∈ scope.names, x.2 ≠ .cell) : codeAny (model prog w) A (.call (.ref f) args) R s := by
  have X := X₀.keeps F.keep
  refine codeAny_call_def (fd := fnOf name qual params body scope dV kV doc pm an cdv ct) (body := body) (binds := binds) hroom (X _ _ ho) rfl (T.nolimit.keeps F.keep) (codeRec_of X hcd) rfl hbind hcell hloc (fun h₁ hns hk₁ => ?_) hco hgen hk
  obtain ⟨oL, es, ep, hLg, hLd, hN, hNs, st, B₂⟩ := ktsX_enter B F N hA hck
  refine wpAny_mono (h _ s.heap.objs.size h₁ ⟨hN _ hLg, st, F.above⟩ ⟨hns, fun b o e => hk₁ b o (of_hideAll _ e), Nat.le_of_eq (hideAll_size _ _)⟩
    (fun p hp => ⟨hk₁ _ _ (N p hp).1, Nat.ne_of_lt (Heap.lt_size (N p hp).1), hideAll_none _ (List.mem_map_of_mem hp)⟩) B₂ (X₀.keeps st) (T.keeps st) (fun b hb => by
      rw [ktsX_mem hb]
      exact ⟨oL, es, ep, hLg, hLd⟩)) (fun fl s' hl => ?_) fun _ _ y => y
  obtain ⟨g', L', m', news', T', F', N', k⟩ := hl
  have nL₀ : h₀.get? L = none := kts_self F
  obtain ⟨sl, hs⟩ := T'.up hLg
  refine k ⟨hNs sl _ (F'.keep _ _ hs), fun b o e => F'.keep b o (T'.other b o (st b o e) (fun q => by
    rw [ktsX_mem q, nL₀] at e
    cases e)), F.above⟩ fun p hp => ⟨(N' p hp).1, fun q => ?_, ?_⟩
  · have := (N' p hp).2.2; rw [q, hs] at this; cases this
  · cases q : h₀.get? p.1 with
    | none => rfl
    | some o =>
      obtain ⟨sl', hs'⟩ := T'.up (st _ _ q)
      have := (N' p hp).2.2
      rw [hs'] at this
      cases this
end
end
section
set_option maxRecDepth 100000
set_option maxHeartbeats 8000000
section

noncomputable def EdgesC (w : World) (mean : ExcName → Option Value) (mg mb : Str → Option Value) : Prop :=
  ∀ (x b : Int) (tx tb : Tok) (c : Nat) (l : Addr) (pre post : List (Addr × Obj)) (dp un : Nat) (gd : Option (List Code)) (cn : Str) (cs : Scope) (a : Addr) (ccd : Value) (cl : List (Str × Addr)) (A₀ : Around) (base h₀ : Heap) (L : Addr) (m : Str → Option Value) (s : Shared)
    (Q E : Value → Shared → Prop),
    Below A₀ base [] h₀ → Fr h₀ L s.heap m → (heap w.params).In h₀ → (heap w.params).In base → News h₀ L s.heap (pre ++ (l, listOf #[.int x tx, .int b tb] c) :: post) → Top view (looseW view [Str.ofString "best_table"]) mean mg mb h₀ → Top view (looseW view [Str.ofString "best_table"]) mean mg mb base → cs.kind = .function →
    (∀ p ∈ pre, p.1 ≠ l) → (∀ p ∈ post, p.1 ≠ l) → 0 ≤ x → 0 ≤ b → b < 2147483647 → dp + 40 < recursionLimit → un + 8 * 40 < cLine →
    (∀ h' tk', Fr h₀ L h' m → Q (.bool true) { s with heap := h', toks := tk' }) →
    wpAny (model PySem.Challenge.rw_nt0548_01.row.prog w) (ktrTop dp un gd cn cs L a ccd cl []) (call (.ref 172) [.ref l]) Q E s
theorem datRep {L9 : List (Addr × Obj)} (i : Int) (t : Tok) : ∀ n, DatAll L9 (List.replicate n (.int i t)) (List.replicate n (.int i))
  | 0 => .nil
  | n + 1 => .cons (.int i t) (datRep i t n)
inductive EdgI (w : World) (D l : Addr) (i : Nat) (m : Str → Option Value) (nx : List (Addr × Obj)) : Prop
  | mk (o : Obj) (kvs : List (Int × Value)) (fs : List Int) (x b : Int) (tx tb : Tok) (c : Nat) (e0 : nx = [(D, o), (l, listOf #[Value.int x tx, Value.int b tb] c)]) (e1 : o.IsDictOf (intKind PySem.Challenge.rw_nt0548_01.row.prog w) kvs) (e2 : IntPairs kvs (es7 fs)) (e3 : fs.length = i) (e4 : (∀ f ∈ fs, 1 ≤ f)) (e5 : 0 ≤ x) (e6 : 0 ≤ b) (e7 : b < 2147483647) (e8 : m (Str.ofString "source") = some (.ref l)) (e9 : m (Str.ofString "frequencies") = some (.ref D)) : EdgI w D l i m nx
theorem edges_tells (w : World) (mean mg mb) : EdgesC w mean mg mb := by
  unfold EdgesC; k_fill
  intro x b tx tb c l pre post dp un gd cn cs a ccd cl A₀ base h₀ L m s Q E B F X XB N T TB hk hpre hpost hx hb0 hb1 hd hu hret
  have ks0 : KS "pyIter ref" := ⟨⟩; have ks1 : KS "call ref" := ⟨⟩; have ks2 : KS "compareOp NotEq ref ref" := ⟨⟩; have ks3 : KS "exec Try" := ⟨⟩; have ks4 : KS "exec For" := ⟨⟩; have ks5 : KS "binaryOp Mult ref int" := ⟨⟩; have ks6 : KS "binaryOp Add ref ref" := ⟨⟩; have ks7 : KS "setItem" := ⟨⟩; have ks8 : KS "UnrEnd" := ⟨⟩; have ks9 : KS "leaving ref" := ⟨⟩; have ks10 : KS "noteFrame ref" := ⟨⟩; have ks11 : KS "LeaveS0" := ⟨⟩
  have kM := kdMark
  have kM2 := kstMark
  have hcL := cLine_is
  refine wpAny_call ?_
  k_dflt (refine' code_defSX (K := Mine.heap w.params) ?k1 ?k2 ?k3 ?k4 ?k5 ?kA ?k6 ?k7 ?k8 ?k9 ?kB ?_ ?kK ?c2 ?c3 ?c4 ?c5; (case kA => exact rfl); (case kK => assumption); (case k1 => k_asm); (case k2 => k_asm); (case k3 => k_asm); (case k4 => k_asm); (case k5 => k_asm); (case k6 => k_is); (case k7 => k_is); (case k8 => ktr_room); (case k9 => exact BindsTo.of_eq rfl); (case c5 => decide); (case kB => exact locs rfl); (case c2 => exact rfl); (case c3 => exact rfl); (case c4 => exact rfl); k_whole; intro g' L' h' FG' F' N' B' X' T' D'; (try dsimp only); (try k_fold))
  obtain ⟨R0, hR0⟩ : ∃ R0, R0 = pre ++ (l, listOf #[Value.int x tx, Value.int b tb] c) :: post := ⟨_, rfl⟩
  rw [← hR0] at N'
  have ksQ : KS "isTrue Compare" := ⟨⟩
  k_steps
  unfold Stop
  clear ksQ
  refine q_in fun Q9 hQ9 => ?_
  k_steps
  rename_i _ h1 o1 F1 N1 lt1 lo1 hd1 _ _
  unfold Stop
  refine tx_use (best_tells w mean mg mb) ([(100, 0)], 3) B' F1 X' N1 T' rfl ⟨_, .inl ⟨_, rfl⟩, _, o1, _, rfl, List.mem_cons_self, lo1, hd1, ⟨rfl, .cons 0 _ .nil⟩⟩ ⟨by decide, by decide, by decide, by decide, ?ok1⟩ (by show dp + 1 + 24 < recursionLimit; omega) (by show un + 3 + 8 * 24 < cLine; omega) ?_
  case ok1 =>
    intro rs hp hpw
    rw [worth_zero hp]
    exact ⟨by decide, fun _ h => nomatch h⟩
  rintro r1 tl1 h2 tk2 F2 N2 hO2 ⟨rs, hp, hpw, ts, hp2, hpw2, hD1⟩
  obtain rfl := worth_zero hp
  have hts : ts = [] := hp2.eq_nil
  subst hts
  clear F1 N1
  dsimp only
  obtain ⟨R1, hR1⟩ : ∃ R1, R1 = (h'.objs.size, o1) :: R0 ++ tl1 := ⟨_, rfl⟩
  rw [← hR1] at N2 hD1
  k_steps
  rename_i _ _ _ h3 F3 N3 _ _
  unfold Stop
  dsimp only at F3 N3 ⊢
  obtain ⟨q3, hq3⟩ : ∃ q3, h2.objs.size = q3 := ⟨_, rfl⟩
  rw [hq3] at N3 ⊢
  refine mul_one (x := 16) F3 N3 List.mem_cons_self rfl (by decide) (by decide) ?_
  intro h4 F4 N4
  dsimp only at F4 N4 ⊢
  obtain ⟨q4, hq4⟩ : ∃ q4, h3.objs.size = q4 := ⟨_, rfl⟩
  rw [hq4] at N4 ⊢
  clear F3 N3
  k_steps
  rename_i h5 _ _ _ _ h6 F6 N6 _ _
  dsimp only at F6 N6 ⊢
  obtain ⟨q5, hq5⟩ : ∃ q5, h4.objs.size = q5 := ⟨_, rfl⟩
  obtain ⟨q6, hq6⟩ : ∃ q6, h5.objs.size = q6 := ⟨_, rfl⟩
  rw [hq5, hq6] at N6
  rw [hq6]
  have he1 : (Dat.tuple [.tuple ((tally (sizesOf (([] : List (Int × Int)).map coinOf) 3)).map .int), .tuple ((([] : List (Int × Int)).map (·.2)).map .int)]) = .tuple [.tuple (List.replicate 16 (.int 0)), .tuple []] := by rfl
  rw [he1] at hD1
  refine dat_same N6 (hD1.mono fun p hp => by first | k_mem | simp [hp]) (.tuple (n := 0) (vs := [.ref q4, .ref q5]) (by first | k_mem | simp) (.cons (.tuple (n := 0) (vs := List.replicate 16 (.int 0 tk2)) (by first | k_mem | simp) (datRep 0 tk2 16)) (.cons (.tuple (n := 0) (vs := []) (by first | k_mem | simp) .nil) .nil))) (by rfl) (by show un + 3 + 64 < cLine; omega) ?_
  obtain ⟨R2, hR2⟩ : ∃ R2, R2 = (q6, ({ cls := Value.type "tuple", data := Data.seq #[Value.ref q4, Value.ref q5] } : Obj)) :: (q5, { cls := Value.type "tuple", data := Data.seq #[] }) :: (q4, { cls := Value.type "tuple", data := Data.seq (List.replicate 16 (Value.int 0 tk2)).toArray }) :: (q3, { cls := Value.type "tuple", data := Data.seq #[Value.int 0 tk2] }) :: R1 := ⟨_, rfl⟩
  rw [← hR2] at N6
  k_steps
  refine hQ9 _ _ ?_
  clear hQ9 Q9
  have ksQ : KS "isTrue Compare" := ⟨⟩
  k_steps
  unfold Stop
  clear ksQ
  refine q_in fun Q9 hQ9 => ?_
  k_steps
  rename_i _ h7 o7 F7 N7 lt7 lo7 hd7 _ _
  unfold Stop
  obtain ⟨q7, hq7⟩ : ∃ q7, h6.objs.size = q7 := ⟨_, rfl⟩
  rw [hq7] at N7 lo7
  rw [hq7]
  refine tx_use (best_tells w mean mg mb) ([(9, 4)], 16) B' F7 X' N7 T' rfl ⟨_, .inr ⟨rfl, rfl⟩, q7, o7, _, rfl, List.mem_cons_self, lo7, hd7, ⟨rfl, .cons 4 _ .nil⟩⟩ ⟨by decide, by decide, by decide, by decide, ?ok2⟩ (by show dp + 1 + 24 < recursionLimit; omega) (by show un + 3 + 8 * 24 < cLine; omega) ?_
  case ok2 =>
    intro rs hp hpw
    rw [worth_nine hp, sizes_nine]
    exact ⟨by decide, by decide⟩
  rintro r2 tl2 h8 tk8 F8 N8 hO8 ⟨rs, hp, hpw, ts, hp2, hpw2, hD2⟩
  obtain rfl := worth_nine hp
  rw [sizes_nine] at hp2 hD2
  have hts : ts = [(1, 9)] := hp2.eq_singleton
  subst hts
  clear F7 N7
  dsimp only
  obtain ⟨R3, hR3⟩ : ∃ R3, R3 = (q7, o7) :: R2 ++ tl2 := ⟨_, rfl⟩
  rw [← hR3] at N8 hD2
  k_steps
  rename_i h9 _ _ _ _ h10 F10 N10 _ _
  unfold Stop
  dsimp only at F10 N10 ⊢
  obtain ⟨q8, hq8⟩ : ∃ q8, h8.objs.size = q8 := ⟨_, rfl⟩
  obtain ⟨q9, hq9⟩ : ∃ q9, h9.objs.size = q9 := ⟨_, rfl⟩
  rw [hq8, hq9] at N10
  rw [hq9]
  refine mul_one (x := 15) F10 N10 List.mem_cons_self rfl (by decide) (by decide) ?_
  intro h11 F11 N11
  dsimp only at F11 N11 ⊢
  obtain ⟨q10, hq10⟩ : ∃ q10, h10.objs.size = q10 := ⟨_, rfl⟩
  rw [hq10] at N11 ⊢
  clear F10 N10
  k_steps
  unfold Stop
  rw [hq8]
  refine add_tupL (vs := [.int 1 tk8]) (ws := List.replicate 15 (.int 0 (tk8 + 1))) (k := 0) (k' := 0) F11 N11 (by first | k_mem | simp) List.mem_cons_self (by first | k_mem | simp) (by first | k_mem | simp) (by rw [sizeLine_eq]; simp) ?_
  intro h12 F12 N12
  dsimp only at F12 N12 ⊢
  obtain ⟨q11, hq11⟩ : ∃ q11, h11.objs.size = q11 := ⟨_, rfl⟩
  rw [hq11] at N12 ⊢
  clear F11 N11
  k_steps
  rename_i h13 _ _ _ _ h14 F14 N14 _ _
  dsimp only at F14 N14 ⊢
  obtain ⟨q12, hq12⟩ : ∃ q12, h12.objs.size = q12 := ⟨_, rfl⟩
  obtain ⟨q13, hq13⟩ : ∃ q13, h13.objs.size = q13 := ⟨_, rfl⟩
  rw [hq12, hq13] at N14
  rw [hq13]
  replace hD2 : DatIn R3 r2 (.tuple [.tuple (.int 1 :: List.replicate 15 (.int 0)), .tuple [.int 9]]) := hD2
  refine dat_same N14 (hD2.mono fun p hp => by first | k_mem | simp [hp]) (.tuple (n := 0) (vs := [.ref q11, .ref q12]) (by first | k_mem | simp) (.cons (.tuple (n := 0) (vs := [Value.int 1 tk8] ++ List.replicate 15 (.int 0 (tk8 + 1))) (by first | k_mem | simp) (.cons (.int 1 _) (datRep 0 (tk8 + 1) 15))) (.cons (.tuple (n := 0) (vs := [.int 9 (tk8 + 1 + 1 + 1)]) (by first | k_mem | simp) (.cons (.int 9 _) .nil)) .nil))) (by rfl) (by show un + 3 + 64 < cLine; omega) ?_
  obtain ⟨R4, hR4⟩ : ∃ R4, R4 = (q13, ({ cls := Value.type "tuple", data := Data.seq #[Value.ref q11, Value.ref q12] } : Obj)) :: (q12, { cls := Value.type "tuple", data := Data.seq #[Value.int 9 (tk8 + 1 + 1 + 1)] }) :: (q11, { cls := Value.type "tuple", data := Data.seq ([Value.int 1 tk8] ++ List.replicate 15 (Value.int 0 (tk8 + 1))).toArray }) :: (q10, { cls := Value.type "tuple", data := Data.seq (List.replicate 15 (Value.int 0 (tk8 + 1))).toArray }) ::
        (q9, { cls := Value.type "tuple", data := Data.seq #[Value.int 0 (tk8 + 1)] }) :: (q8, { cls := Value.type "tuple", data := Data.seq #[Value.int 1 tk8] }) :: R3 := ⟨_, rfl⟩
  rw [← hR4] at N14
  k_steps
  refine hQ9 _ _ ?_
  clear hQ9 Q9
  k_steps
  rename_i D hE0 oD ltD loD _ _ hiD _ hE1 FE_ NE_ hE tkE tE uE vE hRg FE NE keepE
  clear FE_ NE_
  unfold Stop
  dsimp only at *
  have hlR : (l, listOf #[Value.int x tx, Value.int b tb] c) ∈ R4 := by rw [hR4, hR3, hR2, hR1, hR0]; simp
  have hlD : @Ne Nat l D := Nat.ne_of_lt (ltD _ hlR)
  have NE2 : News g' L' hE [(D, oD), (l, listOf #[Value.int x tx, Value.int b tb] c)] := by
    intro p hp
    simp only [List.mem_cons, List.not_mem_nil, or_false] at hp
    rcases hp with rfl | rfl
    · exact NE _ (by first | k_mem | simp)
    · exact NE _ (List.mem_cons_of_mem _ hlR)
  clear NE
  obtain ⟨mR, FE2⟩ : ∃ mR : Str → Option Value, Fr g' L' hE (fun y => if y = Str.ofString "source" then some (.ref l) else if y = Str.ofString "frequencies" then some (.ref D) else mR y) := ⟨_, fr_as (fr_as FE (a := Str.ofString "frequencies") rfl) (a := Str.ofString "source") rfl⟩
  clear FE
  refine for_range (n := 7) (EdgI w D l)
    rfl hRg (by decide) (by decide) FE2 NE2 ⟨oD, [], [], x, b, tx, tb, c, rfl, hiD, IntPairs.nil, rfl, (fun _ h => nomatch h), hx, hb0, hb1, rfl, rfl⟩ ?turn ?done
  case turn =>
    clear FE2 NE2 hx hb0 hb1
    rintro sx Q1 i m nx I it h tk t hi ⟨o, kvs, fs, x, b, tx, tb, c, rfl, ho, hkv, hfl, hfp, hx, hb0, hb1, hm1, hm2⟩ hIo hc F15 N15
    have F16 := fr_as (fr_as F15 (a := Str.ofString "frequencies") hm2) (a := Str.ofString "source") hm1
    clear F15
    obtain ⟨sym, hsym⟩ : ∃ sym : Int, 0 + (i : Int) * 1 = sym := ⟨_, rfl⟩
    rw [hsym] at F16
    have hID : @Ne Nat D I := hIo (D, o) (by first | k_mem | simp)
    have hIl : @Ne Nat l I := hIo (l, listOf #[Value.int x tx, Value.int b tb] c) (by first | k_mem | simp)
    k_steps
    unfold Stop
    refine take_use (pre := [(I, it), (D, o)]) (post := []) B' F16 X' N15 T' rfl rfl ?_ (fun _ h => nomatch h) hx hb0 hb1 (by decide) (by decide) (by show dp + 1 + 4 < recursionLimit; omega) (by show un + 3 + 8 * 4 < cLine; omega) ?_
    · intro p hp
      simp only [List.mem_cons, List.not_mem_nil, or_false] at hp
      rcases hp with rfl | rfl
      · exact hIl.symm
      · exact hlD.symm
    intro r tr x' b' tx' tb' c' h16 tk16 hr0 hr1 hx' hb0' hb1' F17 N17
    dsimp only
    k_steps
    unfold Stop
    have hnd := hkv.nodup ho
    have hnew : sym ∉ kvs.map (·.1) := by
      rw [hkv.1, es7_keys]
      intro hm
      obtain ⟨q, hq, e⟩ := List.mem_map.mp hm
      have := List.mem_range.mp hq
      omega
    have hkl : kvs.length ≤ sizeLine := by
      have h1 := hkv.length
      rw [es7_length] at h1
      rw [sizeLine_eq]; omega
    refine dict_set (own := [(I, it)]) (d := D) (rest := [(l, listOf #[Value.int x' tx', Value.int b' tb'] c')]) F17 N17 (by
      intro p hp
      rw [List.mem_singleton.mp hp]
      exact hID.symm) (by
      intro p hp
      rw [List.mem_singleton.mp hp]
      exact hlD) ho hkl ?_
    intro h18 o18 F18 N18 ho18
    rw [stored_new hnew] at ho18
    k_steps
    unfold Stop
    refine ⟨_, _, _, [(D, o18), (l, listOf #[Value.int x' tx', Value.int b' tb'] c')], rfl, F18, N18, ?_, o18, _, fs ++ [1 + r], x', b', tx', tb', c', rfl, ho18, ?_, by simp [hfl], ?_, hx', hb0', hb1', rfl, rfl⟩
    · intro p hp
      simp only [List.mem_cons, List.not_mem_nil, or_false] at hp
      rcases hp with rfl | rfl
      · exact hID
      · exact hIl
    · rw [es7_snoc, hfl, show (i : Int) = sym by omega]
      exact hkv.snoc sym (1 + r) _
    · intro f hf
      rcases List.mem_append.mp hf with hf | hf
      · exact hfp f hf
      · rw [List.mem_singleton.mp hf]; omega
  case done =>
    rintro m nx h tk ⟨o, kvs, fs, x, b, tx, tb, c, rfl, ho, hkv, hfl, hfp, hx, hb0, hb1, hm1, hm2⟩ F15 N15
    have F16 := fr_as (fr_as F15 (a := Str.ofString "frequencies") hm2) (a := Str.ofString "source") hm1
    clear F15
    have ksQ : KS "isTrue Compare" := ⟨⟩
    k_steps
    unfold Stop
    clear ksQ
    refine q_in fun Q9 hQ9 => ?_
    k_steps
    unfold Stop
    have hex7 : ∀ rs : List (Int × Int), rs.Perm (worthRows (es7 fs)) → rs.Pairwise (fun a b => lexlt a b = true) → (sizesOf (rs.map coinOf) 3).length < 60 ∧ ∀ e ∈ sizesOf (rs.map coinOf) 3, 1 ≤ e.2 ∧ e.2 ≤ 16 := by
      intro rs hp hpw
      have h7 := seven_sizes hfl hfp hp hpw
      refine ⟨by rw [h7.length_eq]; decide, fun e he => ?_⟩
      have := h7.mem_iff.mp he
      simp only [List.mem_cons, List.not_mem_nil, or_false] at this
      rcases this with rfl | rfl | rfl | rfl | rfl | rfl | rfl <;> decide
    have hwl := worth_length (es7_pos hfp)
    rw [es7_length, hfl] at hwl
    refine tx_use (best_tells w mean mg mb) (es7 fs, 3) B' F16 X' N15 T' rfl ⟨_, .inl ⟨_, rfl⟩, D, o, kvs, rfl, List.mem_cons_self, loD, ho, hkv⟩ ⟨by show (es7 fs).length < 60; rw [es7_length, hfl]; decide, by show 1 ≤ 3; decide, by show 3 ≤ 16; decide, by show (worthRows (es7 fs)).length + 1 ≤ 2 ^ 3; rw [hwl]; decide, hex7⟩ (by show dp + 1 + 24 < recursionLimit; omega) (by show un + 3 + 8 * 24 < cLine; omega) ?_
    rintro r2 tl2 h8 tk8 F8 N8 hO8 ⟨rs, hp, hpw, ts, hp2, hpw2, hD2⟩
    have h7 := seven_sizes hfl hfp hp hpw
    dsimp only at hp2 hD2
    rw [seven_tally h7, seven_syms h7 hp2 hpw2] at hD2
    replace hD2 : DatIn _ r2 (.tuple [.tuple (.int 0 :: .int 0 :: .int 7 :: List.replicate 13 (.int 0)), .tuple [.int 0, .int 1, .int 2, .int 3, .int 4, .int 5, .int 6]]) := hD2
    dsimp only
    obtain ⟨R3, hR3⟩ : ∃ R3, R3 = [(D, o), (l, listOf #[Value.int x tx, Value.int b tb] c)] ++ tl2 := ⟨_, rfl⟩
    rw [← hR3] at N8 hD2
    k_steps
    rename_i h9 _ _ _ _ h10 F10 N10 _ _
    unfold Stop
    dsimp only at F10 N10 ⊢
    obtain ⟨p8, hp8⟩ : ∃ p8, h8.objs.size = p8 := ⟨_, rfl⟩
    obtain ⟨p9, hp9⟩ : ∃ p9, h9.objs.size = p9 := ⟨_, rfl⟩
    rw [hp8, hp9] at N10
    rw [hp9]
    refine mul_one (x := 13) F10 N10 List.mem_cons_self rfl (by decide) (by decide) ?_
    intro h11 F11 N11
    dsimp only at F11 N11 ⊢
    obtain ⟨p10, hp10⟩ : ∃ p10, h10.objs.size = p10 := ⟨_, rfl⟩
    rw [hp10] at N11 ⊢
    clear F10 N10
    k_steps
    unfold Stop
    rw [hp8]
    refine add_tupL (vs := [.int 0 tk8, .int 0 (tk8 + 1), .int 7 (tk8 + 1 + 1)]) (ws := List.replicate 13 (.int 0 (tk8 + 1 + 1 + 1))) (k := 0) (k' := 0) F11 N11 (by first | k_mem | simp) List.mem_cons_self (by first | k_mem | simp) (by first | k_mem | simp) (by rw [sizeLine_eq]; simp) ?_
    intro h12 F12 N12
    dsimp only at F12 N12 ⊢
    obtain ⟨p11, hp11⟩ : ∃ p11, h11.objs.size = p11 := ⟨_, rfl⟩
    rw [hp11] at N12 ⊢
    clear F11 N11
    k_steps
    rename_i h13 _ _ _ _ h14 F14 N14 _ _
    dsimp only at F14 N14 ⊢
    obtain ⟨p12, hp12⟩ : ∃ p12, h12.objs.size = p12 := ⟨_, rfl⟩
    obtain ⟨p13, hp13⟩ : ∃ p13, h13.objs.size = p13 := ⟨_, rfl⟩
    rw [hp12, hp13] at N14
    rw [hp13]
    refine dat_same N14 (hD2.mono fun p hp => by first | k_mem | simp [hp]) (.tuple (n := 0) (vs := [.ref p11, .ref p12]) (by first | k_mem | simp) (.cons (.tuple (n := 0) (vs := [Value.int 0 tk8, Value.int 0 (tk8 + 1), Value.int 7 (tk8 + 1 + 1)] ++ List.replicate 13 (.int 0 (tk8 + 1 + 1 + 1))) (by first | k_mem | simp) (.cons (.int 0 _) (.cons (.int 0 _) (.cons (.int 7 _) (datRep 0 (tk8 + 1 + 1 + 1) 13)))))
      (.cons (.tuple (n := 0) (vs := [Value.int 0 (tk8 + 1 + 1 + 1 + 1 + 1), Value.int 1 (tk8 + 1 + 1 + 1 + 1 + 1 + 1), Value.int 2 (tk8 + 1 + 1 + 1 + 1 + 1 + 1 + 1), Value.int 3 (tk8 + 1 + 1 + 1 + 1 + 1 + 1 + 1 + 1), Value.int 4 (tk8 + 1 + 1 + 1 + 1 + 1 + 1 + 1 + 1 + 1), Value.int 5 (tk8 + 1 + 1 + 1 + 1 + 1 + 1 + 1 + 1 + 1 + 1), Value.int 6 (tk8 + 1 + 1 + 1 + 1 + 1 + 1 + 1 + 1 + 1 + 1 + 1)]) (by first | k_mem | simp) (.cons (.int 0 _) (.cons (.int 1 _) (.cons (.int 2 _) (.cons (.int 3 _) (.cons (.int 4 _) (.cons (.int 5 _) (.cons (.int 6 _) .nil)))))))) .nil))) (by rfl) (by show un + 3 + 64 < cLine; omega) ?_
    have NZ : News g' L' h14 [(D, o)] := by
      intro p hp
      rw [List.mem_singleton.mp hp]
      exact N14 _ (by rw [hR3]; first | k_mem | simp)
    clear N14
    k_steps
    refine hQ9 _ _ ?_
    clear hQ9 Q9
    k_steps
    unfold Stop
    have hnew : (7 : Int) ∉ kvs.map (·.1) := by
      rw [hkv.1, es7_keys, hfl]
      decide
    have hkl : kvs.length ≤ sizeLine := by
      have h1 := hkv.length
      rw [es7_length] at h1
      rw [sizeLine_eq]; omega
    refine dict_set (own := []) (d := D) (rest := []) F14 NZ (fun _ h => nomatch h) (fun _ h => nomatch h) ho hkl ?_
    intro h18 o18 F18 N18 ho18
    rw [stored_new hnew] at ho18
    obtain ⟨kvs8, hkvs8⟩ : ∃ kvs8, kvs8 = kvs ++ [(7, Value.int 1 tk)] := ⟨_, rfl⟩
    have hkv8 : IntPairs kvs8 (es7 (fs ++ [1])) := by
      rw [es7_snoc, hfl, hkvs8]
      exact hkv.snoc 7 1 tk
    rw [← hkvs8] at ho18
    have hf8 : ∀ f ∈ fs ++ [1], 1 ≤ f := by
      intro f hf
      rcases List.mem_append.mp hf with hf | hf
      · exact hfp f hf
      · rw [List.mem_singleton.mp hf]; decide
    have hw8 := worth_length (es7_pos hf8)
    rw [es7_length, List.length_append, hfl] at hw8
    k_steps
    unfold Stop
    refine wpAny_Try_except ?_
    k_steps
    unfold Stop
    refine best_refuse w mean mg mb (es7 (fs ++ [1])) (.ref D) _ _ _ _ _ _ _ _ _ _ _ _ _ _ _ _ _ _ _ B' F18 X' N18 T' rfl ⟨D, o18, kvs8, rfl, List.mem_cons_self, loD, ho18, hkv8⟩ (by rw [es7_length, List.length_append, hfl]; decide) (by rw [hw8]; decide) (by show dp + 1 + 24 < recursionLimit; omega) (by show un + 3 + 8 * 24 < cLine; omega) ?_
    intro h19 e tk19 gB FB RB UB
    refine kts_lookSN RB FB B' UB D' ?_
    intro h20 R20 U20
    refine hit_SN0 R20 FB B' U20 XB TB D' KtsTurn.refl (test_name (.inl (by k_is)) (by rfl) rfl rfl rfl) ?_
    intro h21 g21 T21 F21 N21 B21 X21 T21' D21
    k_steps
    unfold Stop
    dsimp only
    have N22 : News g21 L' h21 [(D, o18)] := N21
    show LeaveS0 _ _ _ _ _ _ _ { s with heap := h21, toks := tk }
    refine leaveS0_ (s' := { s with heap := h21, toks := tk }) F21 N22 T21 fun F22 _ => ?_
    exact hret _ _ F22
end
end
section
set_option maxRecDepth 100000
noncomputable def symLists : List (List Int) := [[0, 1, 2, 3], [5, 240, 17, 2], [9, 8, 7, 1]]
/-- what the plain law says of the table -/
noncomputable def PlainOk (T0 fs : List Int) (M : Nat) (codes : List (Int × Int)) : Prop :=
  ∃ sz : Int → Int, (∀ s ∈ T0, ∃ z, (s, z) ∈ codes) ∧ (∀ s z, (s, z) ∈ codes → z = sz s) ∧ (∀ s ∈ T0, 1 ≤ sz s ∧ sz s ≤ (M : Int)) ∧
    (∀ i j (hi : i < T0.length) (hj : j < T0.length), sz T0[i] < sz T0[j] → fs.getD j 0 ≤ fs.getD i 0) ∧
    (∀ Mv, Mv ∈ (allRows M fs).map (·.1) → (∀ a ∈ (allRows M fs).map (·.1), Mv ≤ a) → ((T0.zip fs).map fun e => sz e.1 * e.2).sum = Mv) ∧ allRows M fs ≠ []
/-- what is built -/
structure Built (S T0 fs : List Int) (n M : Nat) (es : List (Int × Int)) : Prop where
  hS : S ∈ symLists
  hT : S.take n = T0
  n1 : 1 ≤ n
  n4 : n ≤ 4
  hl : fs.length = T0.length
  hf : ∀ f ∈ fs, 1 ≤ f ∧ f ≤ 40
  hes : es = T0.zip fs ∨ es = T0.zip fs ++ [(100, 0)]
  hM : M = 3 ∨ M = 4
end
section
set_option maxRecDepth 100000
set_option maxHeartbeats 2000000
noncomputable def dotX : List Int → List Int → Int
  | x :: X, w :: W => x * w + dotX X W
  | _, _ => 0
/-- the labels of a row: each of 0.. as often as told, else only the label of nobody -/
noncomputable def okL (l X : List Int) : Bool := l.all (fun x => decide (-1 ≤ x ∧ x < X.length)) && (List.range X.length).all fun (i : Nat) => decide ((l.count (i : Int) : Int) = X.getD i 0)
noncomputable def cand : Nat → Nat → List (List Int)
  | 1, _ => [[1]]
  | 2, _ => [[2, 1]]
  | 3, _ => [[3, 2, 1], [2, 2, 2]]
  | 4, 3 => [[3, 3, 3, 1], [3, 2, 2, 2]]
  | 4, 4 => [[3, 3, 3, 1], [3, 2, 2, 2], [4, 3, 2, 1]]
  | _, _ => []
/-! forms: whole numbers before 1, w1, w2, .. -/
theorem dotX_nil (W : List Int) : dotX [] W = 0 := by cases W <;> rfl
theorem dotX_none (X : List Int) : dotX X [] = 0 := by cases X <;> rfl
noncomputable def addF : List Int → List Int → List Int
  | [], Y => Y
  | X, [] => X
  | x :: X, y :: Y => (x + y) :: addF X Y
noncomputable def negF : List Int → List Int
  | [] => []
  | x :: X => -x :: negF X
noncomputable def subF (X Y : List Int) : List Int := addF X (negF Y)
theorem dot_add : ∀ X Y W : List Int, dotX (addF X Y) W = dotX X W + dotX Y W
  | [], Y, W => by rw [dotX_nil, addF, Int.zero_add]
  | x :: X, [], W => by rw [dotX_nil, addF, Int.add_zero]; exact fun h => nomatch h
  | x :: X, y :: Y, [] => by rw [dotX_none, dotX_none, dotX_none]; rfl
  | x :: X, y :: Y, w :: W => by
    rw [addF, dotX, dotX, dotX, dot_add X Y W, Int.add_mul]
    generalize x * w = p
    generalize y * w = q
    omega
theorem dot_neg : ∀ X W : List Int, dotX (negF X) W = -dotX X W
  | [], W => by rw [negF, dotX_nil]; rfl
  | x :: X, [] => by rw [dotX_none, dotX_none]; rfl
  | x :: X, w :: W => by rw [negF, dotX, dotX, dot_neg X W, Int.neg_mul, Int.neg_add]
theorem dot_sub (X Y W : List Int) : dotX (subF X Y) W = dotX X W - dotX Y W := by
  rw [subF, dot_add, dot_neg]; rfl
noncomputable def unitF : Nat → List Int
  | 0 => [1]
  | k + 1 => 0 :: unitF k
theorem dot_unit : ∀ (k : Nat) (W : List Int), dotX (unitF k) W = W.getD k 0
  | _, [] => by rw [dotX_none]; rfl
  | 0, w :: W => by rw [unitF, dotX, dotX_nil, Int.one_mul]; exact Int.add_zero w
  | k + 1, w :: W => by rw [unitF, dotX, dot_unit k W, Int.zero_mul, Int.zero_add]; rfl
/-! what is not less than nothing, by the ends' sums -/
noncomputable def sufOk : List Int → Bool
  | [] => true
  | d :: D => decide (0 ≤ d + D.sum) && sufOk D
theorem suf_ge : ∀ (D W : List Int) (w0 : Int), D.length ≤ W.length → sufOk D = true → W.Pairwise (· ≤ ·) → (∀ w ∈ W, w0 ≤ w) → 0 ≤ w0 → w0 * D.sum ≤ dotX D W
  | [], W, w0, _, _, _, _, _ => by rw [dotX_nil]; exact Int.le_of_eq (Int.mul_zero w0)
  | d :: D, [], w0, hl, _, _, _, _ => absurd hl (Nat.not_succ_le_zero _)
  | d :: D, w :: W, w0, hl, hs, hp, hw, h0 => by
    rw [sufOk, Bool.and_eq_true] at hs
    have hd := of_decide_eq_true hs.1
    have hw0 := hw w List.mem_cons_self
    have ih := suf_ge D W w (Nat.le_of_succ_le_succ hl) hs.2 (List.pairwise_cons.mp hp).2 (List.pairwise_cons.mp hp).1 (Int.le_trans h0 hw0)
    rw [dotX, List.sum_cons]
    have e1 : w0 * (d + D.sum) ≤ w * (d + D.sum) := Int.mul_le_mul_of_nonneg_right hw0 hd
    rw [Int.mul_add w, Int.mul_comm w d] at e1
    exact Int.le_trans e1 (Int.add_le_add_left ih _)
noncomputable def posF (n : Nat) (f : List Int) : Bool := decide (f.length ≤ n) && sufOk f
noncomputable def provF (n : Nat) (H : List (List Int)) (f : List Int) : Bool := posF n f || H.any fun h => posF n (subF f h) || H.any fun h2 => posF n (subF (subF f h) h2)
structure Row1 (n : Nat) (V : List Int) : Prop where
  len : V.length = n
  sorted : V.Pairwise (· ≤ ·)
  pos : ∀ w ∈ V, 0 ≤ w
noncomputable abbrev AllOk (V : List Int) (H : List (List Int)) : Prop := ∀ h ∈ H, 0 ≤ dotX h V
theorem posF_ok {n : Nat} {V f : List Int} (R : Row1 n V) (h : posF n f = true) : 0 ≤ dotX f V := by
  rw [posF, Bool.and_eq_true] at h
  have h1 := suf_ge f V 0 (R.len ▸ of_decide_eq_true h.1) h.2 R.sorted R.pos (Int.le_refl 0)
  rwa [Int.zero_mul] at h1
theorem provF_ok {n : Nat} {V f : List Int} {H : List (List Int)} (R : Row1 n V) (A : AllOk V H) (h : provF n H f = true) : 0 ≤ dotX f V := by
  rw [provF, Bool.or_eq_true, List.any_eq_true] at h
  rcases h with h | ⟨g, hg, h⟩
  · exact posF_ok R h
  · have hg' := A g hg
    rw [Bool.or_eq_true, List.any_eq_true] at h
    rcases h with h | ⟨g2, hg2, h⟩
    · have h1 := posF_ok R h
      rw [dot_sub] at h1
      omega
    · have h1 := posF_ok R h
      have hg2' := A g2 hg2
      rw [dot_sub, dot_sub] at h1
      omega
/-! package-merge on forms -/
noncomputable abbrev SC := List Int × List Int
noncomputable def evC (V : List Int) (c : SC) : Coin := (dotX c.1 V, c.2)
noncomputable def packS : List SC → List SC
  | a :: b :: r => (addF a.1 b.1, a.2 ++ b.2) :: packS r
  | _ => []
theorem packS_ok (V : List Int) : ∀ r : List SC, (packS r).map (evC V) = packC (r.map (evC V))
  | [] => rfl
  | [a] => rfl
  | a :: b :: r => by
    rw [packS, List.map_cons, List.map_cons, List.map_cons, packC, packS_ok V r]
    exact congrArg (fun x => (x, a.2 ++ b.2) :: packC (r.map (evC V))) (dot_add a.1 b.1 V)
noncomputable def mergeK (n : Nat) : Nat → List (List Int) → List SC → List SC → (List (List Int) → List SC → Bool) → Bool
  | 0, _, _, _, _ => false
  | _ + 1, H, [], ys, k => k H ys
  | _ + 1, H, c :: cs, [], k => k H (c :: cs)
  | m + 1, H, c :: cs, p :: ps, k =>
    if provF n H (subF p.1 c.1) then mergeK n m H cs (p :: ps) fun H r => k H (c :: r)
    else if provF n H (addF (subF c.1 p.1) [-1]) then mergeK n m H (c :: cs) ps fun H r => k H (p :: r)
    else (mergeK n m (subF p.1 c.1 :: H) cs (p :: ps) fun H r => k H (c :: r)) && mergeK n m (addF (subF c.1 p.1) [-1] :: H) (c :: cs) ps fun H r => k H (p :: r)
theorem allOk_cons {V h : List Int} {H : List (List Int)} (a : 0 ≤ dotX h V) (A : AllOk V H) : AllOk V (h :: H) := fun g hg => (List.mem_cons.mp hg).elim (fun e => e ▸ a) (A g)
theorem mergeK_ok {n : Nat} {W : List Int} (R : Row1 n (1 :: W)) : ∀ (m : Nat) (H : List (List Int)) (xs ys : List SC) (k : List (List Int) → List SC → Bool), mergeK n m H xs ys k = true → AllOk (1 :: W) H →
    ∃ H' r, AllOk (1 :: W) H' ∧ k H' r = true ∧ r.map (evC (1 :: W)) = mergeC (xs.map (evC (1 :: W))) (ys.map (evC (1 :: W)))
  | 0, _, _, _, _, h, _ => Bool.noConfusion h
  | _ + 1, H, [], ys, k, h, A => ⟨H, ys, A, h, by rw [List.map_nil, mergeC]⟩
  | _ + 1, H, c :: cs, [], k, h, A => ⟨H, c :: cs, A, h, by rw [List.map_nil, List.map_cons, mergeC]⟩
  | m + 1, H, c :: cs, p :: ps, k, h, A => by
    have e1 : dotX (subF p.1 c.1) (1 :: W) = dotX p.1 (1 :: W) - dotX c.1 (1 :: W) := dot_sub _ _ _
    have e2 : dotX (addF (subF c.1 p.1) [-1]) (1 :: W) = dotX c.1 (1 :: W) - dotX p.1 (1 :: W) - 1 := by
      rw [dot_add, dot_sub, dotX, dotX_nil]; rfl
    have hT : ∀ H1, AllOk (1 :: W) H1 → 0 ≤ dotX (subF p.1 c.1) (1 :: W) → (mergeK n m H1 cs (p :: ps) fun H r => k H (c :: r)) = true →
        ∃ H' r, AllOk (1 :: W) H' ∧ k H' r = true ∧ r.map (evC (1 :: W)) = mergeC ((c :: cs).map (evC (1 :: W))) ((p :: ps).map (evC (1 :: W))) := by
      intro H1 A1 hf hm
      obtain ⟨H', r, a, b, e⟩ := mergeK_ok R m H1 cs (p :: ps) _ hm A1
      refine ⟨H', c :: r, a, b, ?_⟩
      rw [List.map_cons, e, List.map_cons, List.map_cons, mergeC, if_pos (show (evC (1 :: W) c).1 ≤ (evC (1 :: W) p).1 from (show dotX c.1 (1 :: W) ≤ dotX p.1 (1 :: W) by omega))]
    have hF : ∀ H1, AllOk (1 :: W) H1 → 0 ≤ dotX (addF (subF c.1 p.1) [-1]) (1 :: W) → (mergeK n m H1 (c :: cs) ps fun H r => k H (p :: r)) = true →
        ∃ H' r, AllOk (1 :: W) H' ∧ k H' r = true ∧ r.map (evC (1 :: W)) = mergeC ((c :: cs).map (evC (1 :: W))) ((p :: ps).map (evC (1 :: W))) := by
      intro H1 A1 hf hm
      obtain ⟨H', r, a, b, e⟩ := mergeK_ok R m H1 (c :: cs) ps _ hm A1
      refine ⟨H', p :: r, a, b, ?_⟩
      rw [List.map_cons, e, List.map_cons, List.map_cons, mergeC, if_neg (show ¬ (evC (1 :: W) c).1 ≤ (evC (1 :: W) p).1 from (show ¬ dotX c.1 (1 :: W) ≤ dotX p.1 (1 :: W) by omega))]
    rw [mergeK] at h
    by_cases q1 : provF n H (subF p.1 c.1) = true
    · rw [if_pos q1] at h
      exact hT H A (provF_ok R A q1) h
    rw [if_neg q1] at h
    by_cases q2 : provF n H (addF (subF c.1 p.1) [-1]) = true
    · rw [if_pos q2] at h
      exact hF H A (provF_ok R A q2) h
    rw [if_neg q2, Bool.and_eq_true] at h
    by_cases hc : 0 ≤ dotX (subF p.1 c.1) (1 :: W)
    · exact hT _ (allOk_cons hc A) hc h.1
    · have hc' : 0 ≤ dotX (addF (subF c.1 p.1) [-1]) (1 :: W) := by omega
      exact hF _ (allOk_cons hc' A) hc' h.2
noncomputable def rowK (n : Nat) (cs : List SC) : Nat → List (List Int) → (List (List Int) → List SC → Bool) → Bool
  | 0, H, k => k H cs
  | m + 1, H, k => rowK n cs m H fun H r => mergeK n 40 H cs (packS r) k
theorem rowK_ok {n : Nat} {W : List Int} (R : Row1 n (1 :: W)) (cs : List SC) : ∀ (m : Nat) (H : List (List Int)) (k : List (List Int) → List SC → Bool), rowK n cs m H k = true → AllOk (1 :: W) H →
    ∃ H' r, AllOk (1 :: W) H' ∧ k H' r = true ∧ r.map (evC (1 :: W)) = rowOf (cs.map (evC (1 :: W))) m
  | 0, H, k, h, A => ⟨H, cs, A, h, rfl⟩
  | m + 1, H, k, h, A => by
    obtain ⟨H1, r1, A1, h1, e1⟩ := rowK_ok R cs m H _ h A
    obtain ⟨H2, r2, A2, h2, e2⟩ := mergeK_ok R _ _ _ _ _ h1 A1
    exact ⟨H2, r2, A2, h2, by rw [e2, packS_ok, e1, rowOf]⟩
noncomputable def endK (n M : Nat) (H : List (List Int)) (r : List SC) : Bool :=
  (cand n M).any fun X => okL ((r.take (2 * n)).flatMap (·.2)) X && (cand n M).all fun Y => provF (n + 1) H (0 :: subF Y X)
noncomputable def coinsS (n : Nat) : List SC := ([], [-1]) :: (List.range n).map fun (i : Nat) => (unitF (i + 1), [(i : Int)])
noncomputable def checkK (n M : Nat) : Bool := rowK (n + 1) (coinsS n) (M - 1) [] (endK n M)
theorem coinsS_ok (W : List Int) : (coinsS W.length).map (evC (1 :: W)) = (0, [-1]) :: W.zipIdx.map fun p => (p.1, [(p.2 : Int)]) := by
  rw [coinsS, List.map_cons, List.map_map]
  refine (fun {a b : Coin} {l l' : List Coin} (h1 : a = b) (h2 : l = l') => (by rw [h1, h2] : a :: l = b :: l')) (congrArg (·, [-1]) (dotX_nil _)) (List.ext_getElem (by rw [List.length_map, List.length_map, List.length_range, List.length_zipIdx]) fun i h1 h2 => ?_)
  have hi : i < W.length := by rw [List.length_map, List.length_range] at h1; exact h1
  rw [List.getElem_map, List.getElem_map, List.getElem_range, List.getElem_zipIdx, Nat.zero_add]
  refine congrArg (·, [(i : Int)]) ((dot_unit (i + 1) (1 :: W)).trans ?_)
  rw [List.getD_cons_succ]
  rw [List.getD_eq_getElem?_getD, List.getElem?_eq_getElem hi, Option.getD_some]
theorem row_best {n M : Nat} {W : List Int} (hc : checkK n M = true) (hl : W.length = n) (hw : ∀ w ∈ W, 1 ≤ w) (hp : W.Pairwise (· ≤ ·)) :
    ∃ X ∈ cand n M, (∀ Y ∈ cand n M, dotX X W ≤ dotX Y W) ∧ okL (chosen (W.zipIdx.map fun p => (p.1, [(p.2 : Int)])) M) X = true := by
  have R : Row1 (n + 1) (1 :: W) := ⟨by rw [List.length_cons, hl], List.pairwise_cons.mpr ⟨hw, hp⟩, fun w h => (List.mem_cons.mp h).elim (fun e => e ▸ by decide) fun h => Int.le_trans (by decide) (hw w h)⟩
  obtain ⟨H, r, A, h, e⟩ := rowK_ok R _ _ _ _ hc (fun _ h => nomatch h)
  subst hl
  rw [coinsS_ok] at e
  rw [endK, List.any_eq_true] at h
  obtain ⟨X, hX, h⟩ := h
  rw [Bool.and_eq_true, List.all_eq_true] at h
  refine ⟨X, hX, fun Y hY => ?_, ?_⟩
  · have h1 := provF_ok R A (h.2 Y hY)
    rw [dotX, dot_sub, Int.zero_mul, Int.zero_add] at h1
    omega
  · unfold chosen
    rw [← e, List.length_map, List.length_zipIdx, ← List.map_take, List.flatMap_map]
    exact h.1
end
section
set_option maxRecDepth 100000
set_option maxHeartbeats 1000000
noncomputable def idxC (rs : List (Int × Int)) : List Coin := rs.zipIdx.map fun p => (p.1.1, [(p.2 : Int)])
noncomputable def symsOf (rs : List (Int × Int)) : List Int := rs.map fun r => -r.2
noncomputable def labF (rs : List (Int × Int)) (x : Int) : Int := if 0 ≤ x then -(rs.getD x.toNat (0, 0)).2 else x
theorem idx_turn (rs : List (Int × Int)) : rs.map coinOf = (idxC rs).map (turnC (labF rs)) := by
  apply List.ext_getElem
  · simp [idxC]
  · intro i h1 h2
    have hi : i < rs.length := by simpa using h1
    simp [idxC, coinOf, turnC, labF, hi]
theorem labF_at {rs : List (Int × Int)} {i : Nat} (hi : i < rs.length) : labF rs (i : Int) = -(rs[i]).2 := by
  simp [labF, hi]
theorem syms_at {rs : List (Int × Int)} {i : Nat} (hi : i < rs.length) : (symsOf rs)[i]'(by simpa [symsOf] using hi) = -(rs[i]).2 := by
  simp [symsOf]
theorem central_of {rs : List (Int × Int)} {M : Nat} {X : List Int} (hX : X.length = rs.length) (hne : rs ≠ []) (hu : (symsOf rs).Nodup) (hs : (-1 : Int) ∉ symsOf rs) (hpos : ∀ x ∈ X, 1 ≤ x)
    (hok : okL (chosen (idxC rs) M) X = true) : (sizesOf (rs.map coinOf) M).Perm ((symsOf rs).zip X) := by
  have hch : chosen (rs.map coinOf) M = (chosen (idxC rs) M).map (labF rs) := by
    rw [idx_turn]
    exact chosen_turn _ (by simp [labF]) _ _
  generalize chosen (idxC rs) M = l at hok hch
  unfold okL at hok
  rw [Bool.and_eq_true, List.all_eq_true, List.all_eq_true] at hok
  obtain ⟨hl1, hl2⟩ := hok
  have hrange : ∀ x ∈ l, -1 ≤ x ∧ x < rs.length := fun x hx => by have := of_decide_eq_true (hl1 x hx); omega
  have hcnt : ∀ i, i < rs.length → (l.count (i : Int) : Int) = X.getD i 0 := fun i hi => of_decide_eq_true (hl2 i (List.mem_range.mpr (by omega)))
  have hinj : ∀ x ∈ l, ∀ i, i < rs.length → (labF rs x = labF rs (i : Int) ↔ x = (i : Int)) := by
    intro x hx i hi
    refine ⟨fun h => ?_, fun h => by rw [h]⟩
    have hr := hrange x hx
    rw [labF_at hi] at h
    by_cases h0 : 0 ≤ x
    · obtain ⟨j, rfl⟩ : ∃ j : Nat, x = j := ⟨x.toNat, by omega⟩
      have hj : j < rs.length := by omega
      rw [labF_at hj, ← syms_at hj, ← syms_at hi] at h
      have := (List.getElem_inj hu).mp h
      omega
    · have hx1 : x = -1 := by omega
      subst hx1
      exfalso
      apply hs
      have e : labF rs (-1) = -1 := by simp [labF]
      rw [e] at h
      rw [h, ← syms_at hi]
      exact List.getElem_mem _
  have hcm : ∀ i, i < rs.length → (((l.map (labF rs)).count (labF rs (i : Int)) : Nat) : Int) = X.getD i 0 := by
    intro i hi
    rw [← hcnt i hi, List.count, List.countP_map, List.count]
    congr 1
    refine List.countP_congr fun x hx => ?_
    simp only [Function.comp]
    rw [beq_iff_eq, beq_iff_eq]
    exact hinj x hx i hi
  have hzl : ((symsOf rs).zip X).length = rs.length := by rw [List.length_zip]; simp [symsOf, hX]
  refine sizes_perm (by simpa using hne) ?_ ?_
  · have h1 : (((symsOf rs).zip X).map (·.1)).Nodup := by
      rw [List.map_fst_zip (by simp [symsOf, hX])]
      exact hu
    rw [List.Nodup, List.pairwise_map] at h1
    exact h1.imp fun {a b} h (e : a = b) => h (congrArg (·.1) e)
  · intro e
    rw [hch]
    constructor
    · intro he
      obtain ⟨i, hi, rfl⟩ := List.getElem_of_mem he
      rw [hzl] at hi
      rw [List.getElem_zip]
      dsimp only
      have e1 : (symsOf rs)[i]'(by simpa [symsOf] using hi) = labF rs (i : Int) := by rw [syms_at hi, labF_at hi]
      have e2 : X[i]'(by omega) = X.getD i 0 := by simp [List.getD, show i < X.length by omega]
      rw [e1, e2]
      have hc := hcm i hi
      refine ⟨?_, ?_, hc.symm⟩
      · apply List.count_pos_iff.mp
        have := hpos (X[i]'(by omega)) (List.getElem_mem _)
        omega
      · rw [← e1]
        intro h
        exact hs (h ▸ List.getElem_mem _)
    · rintro ⟨hm, hn1, hz⟩
      obtain ⟨x, hx, hxe⟩ := List.mem_map.mp hm
      have hr := hrange x hx
      have h0 : 0 ≤ x := by
        by_cases h0 : 0 ≤ x
        · exact h0
        · exfalso
          apply hn1
          rw [← hxe]
          have hx1 : x = -1 := by omega
          subst hx1
          simp [labF]
      obtain ⟨i, rfl⟩ : ∃ j : Nat, x = j := ⟨x.toNat, by omega⟩
      have hi : i < rs.length := by omega
      rw [← hxe, hcm i hi] at hz
      rw [labF_at hi, ← syms_at hi] at hxe
      obtain ⟨ea, eb⟩ := e
      dsimp only at hxe hz
      subst hxe
      subst hz
      have e2 : X[i]'(by omega) = X.getD i 0 := by simp [List.getD, show i < X.length by omega]
      rw [← e2]
      have : ((symsOf rs)[i]'(by simpa [symsOf] using hi), X[i]'(by omega)) = ((symsOf rs).zip X)[i]'(by omega) := by rw [List.getElem_zip]
      rw [this]
      exact List.getElem_mem _
end
section
set_option maxRecDepth 100000
set_option maxHeartbeats 2000000
/-! the rows of sizes -/
noncomputable def dotK : List Int → List Nat → Int
  | c :: cs, k :: ks => c * ((k : Int) + 1) + dotK cs ks
  | _, _ => 0
noncomputable def useK (M : Nat) : List Nat → Int
  | [] => 0
  | k :: ks => (2 : Int) ^ (M - (k + 1)) + useK M ks
theorem useK_nonneg (M : Nat) : ∀ ks, 0 ≤ useK M ks
  | [] => Int.le_refl 0
  | k :: ks => Int.add_nonneg (Int.pow_nonneg (by decide)) (useK_nonneg M ks)
theorem mem_grow {M : Nat} {rows : List (Int × Int)} {c : Int} {r : Int × Int} : r ∈ grow M rows c ↔ ∃ r0 ∈ rows, ∃ k, k < M ∧ r = (r0.1 + c * ((k : Int) + 1), r0.2 + (2 : Int) ^ (M - (k + 1))) ∧ r.2 < (2 : Int) ^ M := by
  unfold grow grow1
  simp only [List.mem_filter, List.mem_flatMap, List.mem_map, List.mem_range, decide_eq_true_eq]
  constructor
  · rintro ⟨⟨r0, h0, k, hk, rfl⟩, h⟩
    exact ⟨r0, h0, k, hk, rfl, h⟩
  · rintro ⟨r0, h0, k, hk, rfl, h⟩
    exact ⟨⟨r0, h0, k, hk, rfl⟩, h⟩
theorem rows_mem (M : Nat) : ∀ (fs : List Int) (rows : List (Int × Int)) (r : Int × Int), r ∈ fs.foldl (grow M) rows ↔ ∃ r0 ∈ rows, ∃ ks : List Nat, ks.length = fs.length ∧ (∀ k ∈ ks, k < M) ∧ (fs ≠ [] → r0.2 + useK M ks < (2 : Int) ^ M) ∧ r = (r0.1 + dotK fs ks, r0.2 + useK M ks)
  | [], rows, r => by
    constructor
    · intro h
      exact ⟨r, h, [], rfl, (fun _ h => nomatch h), fun h => absurd rfl h, by simp [dotK, useK]⟩
    · rintro ⟨r0, h0, ks, hk, -, -, rfl⟩
      have hk0 : ks = [] := List.eq_nil_of_length_eq_zero hk
      subst hk0
      simpa [dotK, useK] using h0
  | c :: fs, rows, r => by
    rw [List.foldl_cons, rows_mem M fs]
    constructor
    · rintro ⟨r1, h1, ks, hk, hks, hu, rfl⟩
      obtain ⟨r0, h0, k, hkM, rfl, hlt⟩ := mem_grow.mp h1
      refine ⟨r0, h0, k :: ks, by simp [hk], ?_, fun _ => ?_, ?_⟩
      · intro x hx
        rcases List.mem_cons.mp hx with rfl | hx
        · exact hkM
        · exact hks x hx
      · dsimp only at hu hlt
        rw [useK, ← Int.add_assoc]
        by_cases hf : fs = []
        · have hk0 : ks = [] := List.eq_nil_of_length_eq_zero (by rw [hk, hf]; rfl)
          subst hk0
          rw [useK]
          omega
        · exact hu hf
      · dsimp only
        rw [dotK, useK, Int.add_assoc, Int.add_assoc]
    · rintro ⟨r0, h0, ks, hk, hks, hu, rfl⟩
      cases ks with
      | nil => simp at hk
      | cons k ks =>
        have hu' := hu (by simp)
        rw [useK] at hu'
        have hn := useK_nonneg M ks
        refine ⟨(r0.1 + c * ((k : Int) + 1), r0.2 + (2 : Int) ^ (M - (k + 1))), mem_grow.mpr ⟨r0, h0, k, hks k List.mem_cons_self, rfl, by dsimp only; omega⟩, ks, by simpa using hk, fun x hx => hks x (List.mem_cons_of_mem _ hx), fun _ => by dsimp only; omega, ?_⟩
        dsimp only
        rw [dotK, useK, Int.add_assoc, Int.add_assoc]
theorem allRows_mem {M : Nat} {fs : List Int} (hne : fs ≠ []) {r : Int × Int} : r ∈ allRows M fs ↔ ∃ ks : List Nat, ks.length = fs.length ∧ (∀ k ∈ ks, k < M) ∧ useK M ks < (2 : Int) ^ M ∧ r = (dotK fs ks, useK M ks) := by
  unfold allRows
  rw [rows_mem]
  constructor
  · rintro ⟨r0, h0, ks, h1, h2, h3, rfl⟩
    rw [List.mem_singleton.mp h0] at h3 ⊢
    refine ⟨ks, h1, h2, ?_, ?_⟩
    · have := h3 hne
      simpa using this
    · simp
  · rintro ⟨ks, h1, h2, h3, rfl⟩
    exact ⟨(0, 0), List.mem_singleton.mpr rfl, ks, h1, h2, fun _ => by simpa using h3, by simp⟩
/-! turned about -/
theorem useK_perm (M : Nat) {a b : List Nat} (h : a.Perm b) : useK M a = useK M b := by
  induction h with
  | nil => rfl
  | cons x _ ih => rw [useK, useK, ih]
  | swap x y l => simp only [useK]; omega
  | trans _ _ ih1 ih2 => rw [ih1, ih2]
theorem perm_lift {fs W : List Int} (h : fs.Perm W) : ∀ ks : List Nat, ks.length = fs.length → ∃ ks' : List Nat, ks'.Perm ks ∧ dotK W ks' = dotK fs ks := by
  induction h with
  | nil => exact fun ks _ => ⟨ks, .refl _, rfl⟩
  | cons x _ ih =>
    intro ks hk
    cases ks with
    | nil => simp at hk
    | cons k ks =>
      obtain ⟨ks', hp, he⟩ := ih ks (by simpa using hk)
      exact ⟨k :: ks', hp.cons _, by rw [dotK, dotK, he]⟩
  | swap x y l =>
    intro ks hk
    match ks, hk with
    | k1 :: k2 :: ks, hk => exact ⟨k2 :: k1 :: ks, .swap _ _ _, by simp only [dotK]; omega⟩
  | trans h1 _ ih1 ih2 =>
    intro ks hk
    obtain ⟨k1, hp1, he1⟩ := ih1 ks hk
    obtain ⟨k2, hp2, he2⟩ := ih2 k1 (by rw [hp1.length_eq, hk, h1.length_eq])
    exact ⟨k2, hp2.trans hp1, by rw [he2, he1]⟩
/-! no row is cheaper -/
noncomputable def diffK : List Nat → List Int → List Int
  | k :: ks, y :: Y => ((k : Int) + 1 - y) :: diffK ks Y
  | _, _ => []
theorem diff_dot : ∀ (ks : List Nat) (Y W : List Int), ks.length = W.length → Y.length = W.length → dotX (diffK ks Y) W = dotK W ks - dotX Y W
  | [], Y, W, h1, h2 => by
    have e1 : W = [] := List.eq_nil_of_length_eq_zero h1.symm
    subst e1
    have e2 : Y = [] := List.eq_nil_of_length_eq_zero h2
    subst e2
    rfl
  | _ :: _, [], [], h1, _ => by simp at h1
  | _ :: _, _ :: _, [], h1, _ => by simp at h1
  | _ :: _, [], _ :: _, _, h2 => by simp at h2
  | k :: ks, y :: Y, w :: W, h1, h2 => by
    rw [diffK, dotX, dotX, dotK, diff_dot ks Y W (by simpa using h1) (by simpa using h2), Int.sub_mul, Int.mul_comm w]
    omega
theorem diff_len : ∀ (ks : List Nat) (Y : List Int), ks.length = Y.length → (diffK ks Y).length = ks.length
  | [], _, _ => by simp [diffK]
  | k :: ks, [], h => by simp at h
  | k :: ks, y :: Y, h => by rw [diffK, List.length_cons, diff_len ks Y (by simpa using h), List.length_cons]
noncomputable def allKs (M : Nat) : Nat → List (List Nat)
  | 0 => [[]]
  | n + 1 => (List.range M).flatMap fun k => (allKs M n).map (k :: ·)
theorem mem_allKs {M : Nat} : ∀ {n : Nat} {ks : List Nat}, ks.length = n → (∀ k ∈ ks, k < M) → ks ∈ allKs M n
  | 0, ks, h, _ => by rw [List.eq_nil_of_length_eq_zero h]; simp [allKs]
  | n + 1, [], h, _ => by simp at h
  | n + 1, k :: ks, h, hk => by
    rw [allKs, List.mem_flatMap]
    exact ⟨k, List.mem_range.mpr (hk k List.mem_cons_self), List.mem_map.mpr ⟨ks, mem_allKs (by simpa using h) (fun x hx => hk x (List.mem_cons_of_mem _ hx)), rfl⟩⟩
noncomputable def lowB (n M : Nat) : Bool := (allKs M n).all fun ks => !decide (useK M ks < (2 : Int) ^ M) || (cand n M).any fun Y => sufOk (diffK ks Y)
theorem low_all : ∀ n M, 1 ≤ n → n ≤ 4 → (M = 3 ∨ M = 4) → lowB n M = true := by
  intro n M h1 h4 hM
  have : n = 1 ∨ n = 2 ∨ n = 3 ∨ n = 4 := by omega
  rcases this with rfl | rfl | rfl | rfl <;> rcases hM with rfl | rfl <;> decide +kernel
theorem cand_len {n M : Nat} {X : List Int} (h1 : 1 ≤ n) (h4 : n ≤ 4) (hM : M = 3 ∨ M = 4) (hX : X ∈ cand n M) : X.length = n ∧ (∀ x ∈ X, 1 ≤ x ∧ x ≤ (M : Int)) ∧ X.Pairwise (fun a b => b ≤ a) ∧ useK M (X.map fun x => (x - 1).toNat) < (2 : Int) ^ M := by
  have : n = 1 ∨ n = 2 ∨ n = 3 ∨ n = 4 := by omega
  rcases this with rfl | rfl | rfl | rfl <;> rcases hM with rfl | rfl <;> simp only [cand, List.mem_cons, List.not_mem_nil, or_false] at hX
  all_goals first
    | (rcases hX with rfl | rfl | rfl <;> exact ⟨by decide, by decide, by decide, by decide⟩)
    | (rcases hX with rfl | rfl <;> exact ⟨by decide, by decide, by decide, by decide⟩)
    | (subst hX; exact ⟨by decide, by decide, by decide, by decide⟩)
theorem low_bound {n M : Nat} {W : List Int} (h1 : 1 ≤ n) (h4 : n ≤ 4) (hM : M = 3 ∨ M = 4) (hl : W.length = n) (hp : W.Pairwise (· ≤ ·)) (hw : ∀ w ∈ W, 0 ≤ w) {ks : List Nat} (hk : ks.length = n) (hks : ∀ k ∈ ks, k < M) (hu : useK M ks < (2 : Int) ^ M) :
    ∃ Y ∈ cand n M, dotX Y W ≤ dotK W ks := by
  have hb := low_all n M h1 h4 hM
  unfold lowB at hb
  rw [List.all_eq_true] at hb
  have := hb ks (mem_allKs hk hks)
  rw [decide_eq_true hu, Bool.not_true, Bool.false_or, List.any_eq_true] at this
  obtain ⟨Y, hY, hs⟩ := this
  have hYl := (cand_len h1 h4 hM hY).1
  refine ⟨Y, hY, ?_⟩
  have h9 := suf_ge (diffK ks Y) W 0 (by rw [diff_len ks Y (by omega)]; omega) hs hp hw (by omega)
  rw [diff_dot ks Y W (by omega) (by omega)] at h9
  omega
end
section
set_option maxRecDepth 100000
set_option maxHeartbeats 2000000
theorem lex_le {a b : Int × Int} (h : lexlt a b = true) : a.1 ≤ b.1 := by
  have := of_decide_eq_true h
  omega
theorem central_ex {rs : List (Int × Int)} {n M : Nat} (hl : rs.length = n) (h1 : 1 ≤ n) (h4 : n ≤ 4) (hM : M = 3 ∨ M = 4) (hw : ∀ r ∈ rs, 1 ≤ r.1) (hp : rs.Pairwise (fun a b => lexlt a b = true)) :
    ∃ X ∈ cand n M, (∀ Y ∈ cand n M, dotX X (rs.map (·.1)) ≤ dotX Y (rs.map (·.1))) ∧ okL (chosen (idxC rs) M) X = true := by
  have hle : (rs.map (·.1)).Pairwise (· ≤ ·) := List.pairwise_map.mpr (hp.imp fun h => lex_le h)
  have hc : checkK n M = true := by
    have : n = 1 ∨ n = 2 ∨ n = 3 ∨ n = 4 := by omega
    rcases this with rfl | rfl | rfl | rfl <;> rcases hM with rfl | rfl <;> decide +kernel
  obtain ⟨X, hX, hm, ho⟩ := row_best (W := rs.map (·.1)) hc (by rw [List.length_map, hl]) (fun w h => by obtain ⟨r, hr, rfl⟩ := List.mem_map.mp h; exact hw r hr) hle
  refine ⟨X, hX, hm, ?_⟩
  rw [List.zipIdx_map, List.map_map] at ho
  exact ho
theorem getD_out {l : List Int} {k : Nat} (h : l.length ≤ k) : l.getD k 0 = 0 := by
  simp [List.getD, h]
theorem rows_ok {c : List Int} (hl : c.length = 16) (h : ((List.range 16).all fun k => decide (0 ≤ c.getD k 0 ∧ c.getD k 0 ≤ 60) && (decide (0 < c.getD k 0 → codeAt c k + c.getD k 0 < 2 ^ (k + 1)))) = true) : cRows.Ok c := by
  rw [List.all_eq_true] at h
  refine ⟨hl, fun k => ?_, fun k hk hp => ?_⟩
  · by_cases hk : k < 16
    · have := h k (List.mem_range.mpr hk)
      rw [Bool.and_eq_true] at this
      exact of_decide_eq_true this.1
    · rw [getD_out (by omega)]; decide
  · have := h k (List.mem_range.mpr hk)
    rw [Bool.and_eq_true] at this
    exact of_decide_eq_true this.2 hp
theorem cand_table {n M : Nat} {X : List Int} (h1 : 1 ≤ n) (h4 : n ≤ 4) (hM : M = 3 ∨ M = 4) (hX : X ∈ cand n M) :
    (tallyX X).length = 16 ∧ (∀ x ∈ tallyX X, 0 ≤ x) ∧ (tallyX X).sum = (n : Int) ∧ cRows.Ok (tallyX X) ∧ X.reverse.Pairwise (· ≤ ·) ∧ ∀ l : List Int, l.length = n → codesTo (tallyX X) l 16 = l.zip X.reverse := by
  have : n = 1 ∨ n = 2 ∨ n = 3 ∨ n = 4 := by omega
  rcases this with rfl | rfl | rfl | rfl <;> rcases hM with rfl | rfl <;> simp only [cand, List.mem_cons, List.not_mem_nil, or_false] at hX
  case inl.inl =>
    subst hX
    refine ⟨by decide +kernel, by decide +kernel, by decide +kernel, rows_ok (by decide +kernel) (by decide +kernel), by decide, ?_⟩
    intro l hl
    match l, hl with
    | [a], _ => kernel_rfl
  case inl.inr =>
    subst hX
    refine ⟨by decide +kernel, by decide +kernel, by decide +kernel, rows_ok (by decide +kernel) (by decide +kernel), by decide, ?_⟩
    intro l hl
    match l, hl with
    | [a], _ => kernel_rfl
  case inr.inl.inl =>
    subst hX
    refine ⟨by decide +kernel, by decide +kernel, by decide +kernel, rows_ok (by decide +kernel) (by decide +kernel), by decide, ?_⟩
    intro l hl
    match l, hl with
    | [a, b], _ => kernel_rfl
  case inr.inl.inr =>
    subst hX
    refine ⟨by decide +kernel, by decide +kernel, by decide +kernel, rows_ok (by decide +kernel) (by decide +kernel), by decide, ?_⟩
    intro l hl
    match l, hl with
    | [a, b], _ => kernel_rfl
  case inr.inr.inl.inl =>
    rcases hX with rfl | rfl
    all_goals
      refine ⟨by decide +kernel, by decide +kernel, by decide +kernel, rows_ok (by decide +kernel) (by decide +kernel), by decide, ?_⟩
      intro l hl
      match l, hl with
      | [a, b, c], _ => kernel_rfl
  case inr.inr.inl.inr =>
    rcases hX with rfl | rfl
    all_goals
      refine ⟨by decide +kernel, by decide +kernel, by decide +kernel, rows_ok (by decide +kernel) (by decide +kernel), by decide, ?_⟩
      intro l hl
      match l, hl with
      | [a, b, c], _ => kernel_rfl
  case inr.inr.inr.inl =>
    rcases hX with rfl | rfl
    all_goals
      refine ⟨by decide +kernel, by decide +kernel, by decide +kernel, rows_ok (by decide +kernel) (by decide +kernel), by decide, ?_⟩
      intro l hl
      match l, hl with
      | [a, b, c, d], _ => kernel_rfl
  case inr.inr.inr.inr =>
    rcases hX with rfl | rfl | rfl
    all_goals
      refine ⟨by decide +kernel, by decide +kernel, by decide +kernel, rows_ok (by decide +kernel) (by decide +kernel), by decide, ?_⟩
      intro l hl
      match l, hl with
      | [a, b, c, d], _ => kernel_rfl
end
section
set_option maxRecDepth 100000
set_option maxHeartbeats 2000000
theorem sym_facts {S : List Int} (h : S ∈ symLists) : S.length = 4 ∧ S.Nodup ∧ (-1 : Int) ∉ S := by
  simp only [symLists, List.mem_cons, List.not_mem_nil, or_false] at h
  rcases h with rfl | rfl | rfl <;> decide
noncomputable def flipE (e : Int × Int) : Int × Int := (e.2, -e.1)
theorem worth_all {es : List (Int × Int)} (h : ∀ e ∈ es, 1 ≤ e.2) : worthRows es = es.map flipE := by
  unfold worthRows
  rw [List.filter_eq_self.mpr fun e he => decide_eq_true (by have := h e he; omega)]
  rfl
theorem worth_built {S T0 fs : List Int} {n M : Nat} {es : List (Int × Int)} (B : Built S T0 fs n M es) : worthRows es = (T0.zip fs).map flipE := by
  have h1 : ∀ e ∈ T0.zip fs, 1 ≤ e.2 := fun e he => (B.hf _ (List.of_mem_zip he).2).1
  rcases B.hes with h | h
  · rw [h, worth_all h1]
  · rw [h, ← worth_all h1]
    unfold worthRows
    rw [List.filter_append, List.map_append]
    simp
structure Facts (T0 fs : List Int) (n : Nat) (rs : List (Int × Int)) : Prop where
  len : rs.length = n
  pos : ∀ r ∈ rs, 1 ≤ r.1
  syms : (symsOf rs).Perm T0
  nd : (symsOf rs).Nodup
  no : (-1 : Int) ∉ symsOf rs
  ws : (rs.map (·.1)).Perm fs
  ne : rs ≠ []
theorem built_facts {S T0 fs : List Int} {n M : Nat} {es rs : List (Int × Int)} (B : Built S T0 fs n M es) (hp : rs.Perm (worthRows es)) : Facts T0 fs n rs := by
  obtain ⟨hSl, hSn, hS1⟩ := sym_facts B.hS
  have hTl : T0.length = n := by rw [← B.hT, List.length_take, hSl]; have := B.n4; omega
  rw [worth_built B] at hp
  have hzl : (T0.zip fs).length = n := by rw [List.length_zip, B.hl, hTl]; omega
  have hsy : (symsOf rs).Perm T0 := by
    have h1 := hp.map fun r => -r.2
    rw [List.map_map] at h1
    have e : (T0.zip fs).map ((fun r : Int × Int => -r.2) ∘ flipE) = T0 := by
      have e1 : ((fun r : Int × Int => -r.2) ∘ flipE) = fun e => e.1 := by
        funext e
        simp [flipE]
      rw [e1, List.map_fst_zip (by rw [B.hl]; exact Nat.le_refl _)]
    rw [e] at h1
    exact h1
  have hws : (rs.map (·.1)).Perm fs := by
    have h1 := hp.map fun r => r.1
    rw [List.map_map] at h1
    have e : (T0.zip fs).map ((fun r : Int × Int => r.1) ∘ flipE) = fs := by
      have e1 : ((fun r : Int × Int => r.1) ∘ flipE) = fun e => e.2 := by
        funext e
        simp [flipE]
      rw [e1, List.map_snd_zip (by rw [B.hl]; exact Nat.le_refl _)]
    rw [e] at h1
    exact h1
  have hlen : rs.length = n := by rw [hp.length_eq, List.length_map, hzl]
  refine ⟨hlen, fun r hr => ?_, hsy, ?_, ?_, hws, ?_⟩
  · exact (B.hf _ (hws.mem_iff.mp (List.mem_map.mpr ⟨r, hr, rfl⟩))).1
  · rw [hsy.nodup_iff, ← B.hT]
    exact hSn.sublist (List.take_sublist _ _)
  · rw [hsy.mem_iff, ← B.hT]
    exact fun h => hS1 (List.mem_of_mem_take h)
  · intro h
    rw [h] at hlen
    have := B.n1
    simp at hlen
    omega
/-- what the package merge tells -/
theorem told_is {S T0 fs : List Int} {n M : Nat} {es rs : List (Int × Int)} (B : Built S T0 fs n M es) (hp : rs.Perm (worthRows es)) (hpw : rs.Pairwise (fun a b => lexlt a b = true)) :
    Facts T0 fs n rs ∧ ∃ X ∈ cand n M, (∀ Y ∈ cand n M, dotX X (rs.map (·.1)) ≤ dotX Y (rs.map (·.1))) ∧ (sizesOf (rs.map coinOf) M).Perm ((symsOf rs).zip X) := by
  have F := built_facts B hp
  obtain ⟨X, hX, hbest, hok⟩ := central_ex F.len B.n1 B.n4 B.hM F.pos hpw
  obtain ⟨hXl, hX1, _, _⟩ := cand_len B.n1 B.n4 B.hM hX
  exact ⟨F, X, hX, hbest, central_of (by rw [hXl, F.len]) F.ne F.nd F.no (fun x hx => (hX1 x hx).1) hok⟩
theorem plain_best {S T0 fs : List Int} {n M : Nat} {es : List (Int × Int)} (w : World) (B : Built S T0 fs n M es) : (cBest w).Ok (es, M) := by
  obtain ⟨hSl, hSn, hS1⟩ := sym_facts B.hS
  have hTl : T0.length = n := by rw [← B.hT, List.length_take, hSl]; have := B.n4; omega
  have hzl : (T0.zip fs).length = n := by rw [List.length_zip, B.hl, hTl]; omega
  have h4 := B.n4
  have hM := B.hM
  refine ⟨?_, ?_, ?_, ?_, ?_⟩
  · show es.length < 60
    rcases B.hes with h | h <;> rw [h]
    · omega
    · rw [List.length_append, hzl]; simp; omega
  · show 1 ≤ M; omega
  · show M ≤ 16; omega
  · show (worthRows es).length + 1 ≤ 2 ^ M
    rw [worth_built B, List.length_map, hzl]
    rcases hM with rfl | rfl <;> omega
  · intro rs hp hpw
    obtain ⟨F, X, hX, _, hZ⟩ := told_is B hp hpw
    obtain ⟨hXl, hX1, _, _⟩ := cand_len B.n1 B.n4 B.hM hX
    constructor
    · show (sizesOf (rs.map coinOf) M).length < 60
      rw [hZ.length_eq, List.length_zip]
      omega
    · intro e he
      have he' := hZ.mem_iff.mp he
      have := hX1 _ (List.of_mem_zip he').2
      omega
theorem numAt_zip : ∀ {U X : List Int} {i : Nat} (hU : U.Nodup) (hi : i < U.length) (hj : i < X.length), numAt (U.zip X) U[i] = X[i]
  | u :: U, x :: X, 0, _, _, _ => by simp [numAt]
  | u :: U, x :: X, i + 1, hU, hi, hj => by
    have hi' : i < U.length := by simpa using hi
    have hne : ¬ u = U[i] := by
      intro e
      exact (List.nodup_cons.mp hU).1 (e ▸ List.getElem_mem _)
    have ih := numAt_zip (U := U) (X := X) (i := i) (List.nodup_cons.mp hU).2 (by simpa using hi) (by simpa using hj)
    simp only [List.getElem_cons_succ]
    rw [← ih]
    unfold numAt
    rw [List.zip_cons_cons, List.find?_cons_of_neg (by simpa using hne)]
theorem sumI_perm {a b : List Int} (h : a.Perm b) : a.sum = b.sum := by
  induction h with
  | nil => rfl
  | cons x _ ih => rw [List.sum_cons, List.sum_cons, ih]
  | swap x y l => simp only [List.sum_cons]; omega
  | trans _ _ ih1 ih2 => rw [ih1, ih2]
theorem dotX_sum : ∀ (X W : List Int), (List.zipWith (fun x w => x * w) X W).sum = dotX X W
  | [], W => by simp [dotX]
  | x :: X, [] => by simp [dotX]
  | x :: X, w :: W => by rw [List.zipWith_cons_cons, List.sum_cons, dotX, dotX_sum X W]
theorem dotK_of : ∀ (W X : List Int), (∀ x ∈ X, 1 ≤ x) → dotK W (X.map fun x => (x - 1).toNat) = dotX X W
  | [], X, _ => by cases X <;> simp [dotK, dotX]
  | w :: W, [], _ => by simp [dotK, dotX]
  | w :: W, x :: X, h => by
    have hx := h x List.mem_cons_self
    rw [List.map_cons, dotK, dotX, dotK_of W X fun y hy => h y (List.mem_cons_of_mem _ hy)]
    have e : (((x - 1).toNat : Int) + 1) = x := by omega
    rw [e, Int.mul_comm]
theorem plain_huff {S T0 fs : List Int} {n M : Nat} {es rs ts : List (Int × Int)} (w : World) (B : Built S T0 fs n M es) (hp : rs.Perm (worthRows es)) (hpw : rs.Pairwise (fun a b => lexlt a b = true))
    (hp2 : ts.Perm ((sizesOf (rs.map coinOf) M).map fun e => (e.2, e.1))) (hpw2 : ts.Pairwise (fun a b => lexlt a b = true)) :
    (cHuff w).Ok (tally (sizesOf (rs.map coinOf) M), ts.map (·.2)) ∧ (ts.map (·.2)).Perm T0 ∧ PlainOk T0 fs M (codesTo (tally (sizesOf (rs.map coinOf) M)) (ts.map (·.2)) 16) := by
  obtain ⟨F, X, hX, hbest, hZ⟩ := told_is B hp hpw
  obtain ⟨hXl, hX1, hXm, hXu⟩ := cand_len B.n1 B.n4 B.hM hX
  obtain ⟨t1, t2, t3, t4, t5, t6⟩ := cand_table B.n1 B.n4 B.hM hX
  have hUl : (symsOf rs).length = n := by simp [symsOf, F.len]
  have hn4 := B.n4
  have hn1 := B.n1
  have htal : tally (sizesOf (rs.map coinOf) M) = tallyX X := by
    rw [tally_perm hZ fun e he => (hX1 _ (List.of_mem_zip (hZ.mem_iff.mp he)).2).1, tally_snd, List.map_snd_zip (by omega)]
  have hp3 : ts.Perm (((symsOf rs).zip X).map fun e => (e.2, e.1)) := hp2.trans (hZ.map _)
  have hs2 : (ts.map (·.2)).Perm (symsOf rs) := by
    have h1 := hp3.map (·.2)
    rw [List.map_map] at h1
    have e : ((symsOf rs).zip X).map ((fun r : Int × Int => r.2) ∘ fun e => (e.2, e.1)) = symsOf rs := List.map_fst_zip (by omega)
    rw [e] at h1
    exact h1
  have hs1 : ts.map (·.1) = X.reverse := by
    have h1 := hp3.map (·.1)
    rw [List.map_map] at h1
    have e : ((symsOf rs).zip X).map ((fun r : Int × Int => r.1) ∘ fun e => (e.2, e.1)) = X := List.map_snd_zip (by omega)
    rw [e] at h1
    refine lks_uniq (h1.trans X.reverse_perm.symm) ?_ t5
    rw [List.pairwise_map]
    exact hpw2.imp fun h => lex_le h
  have hsl : (ts.map (·.2)).length = n := by rw [hs2.length_eq, hUl]
  have hcodes : codesTo (tallyX X) (ts.map (·.2)) 16 = (ts.map (·.2)).zip (ts.map (·.1)) := by rw [t6 _ hsl, hs1]
  have hmem : ∀ s z, (s, z) ∈ codesTo (tallyX X) (ts.map (·.2)) 16 ↔ (s, z) ∈ (symsOf rs).zip X := by
    intro s z
    rw [hcodes]
    have e : (ts.map (·.2)).zip (ts.map (·.1)) = ts.map fun e => (e.2, e.1) := by
      rw [List.zip_map']
    rw [e]
    have h1 := (hp3.map fun e : Int × Int => (e.2, e.1)).mem_iff (a := (s, z))
    rw [h1, List.map_map]
    have e2 : ((fun e : Int × Int => (e.2, e.1)) ∘ fun e : Int × Int => (e.2, e.1)) = id := rfl
    rw [e2, List.map_id]
  rw [htal]
  refine ⟨⟨⟨t1, t2, ?_, ?_, ?_⟩, t4⟩, hs2.trans F.syms, ?_⟩
  · show (tallyX X).sum = ((ts.map (·.2)).length : Int)
    rw [t3, hsl]
  · show (ts.map (·.2)).length < 60
    omega
  · exact hs2.nodup_iff.mpr F.nd
  have hsz : ∀ i (hi : i < n), numAt ((symsOf rs).zip X) ((symsOf rs)[i]'(by omega)) = X[i]'(by omega) := fun i hi => numAt_zip F.nd (by omega) (by omega)
  have hpos : ∀ s ∈ T0, ∃ i, ∃ hi : i < n, s = (symsOf rs)[i]'(by omega) := by
    intro s hs
    obtain ⟨i, hi, rfl⟩ := List.getElem_of_mem (F.syms.mem_iff.mpr hs)
    exact ⟨i, by omega, rfl⟩
  have hTl : T0.length = n := by rw [← F.syms.length_eq, hUl]
  have hmemz : ∀ i (hi : i < n), ((symsOf rs)[i]'(by omega), X[i]'(by omega)) ∈ (symsOf rs).zip X := by
    intro i hi
    have : ((symsOf rs)[i]'(by omega), X[i]'(by omega)) = ((symsOf rs).zip X)[i]'(by rw [List.length_zip]; omega) := by rw [List.getElem_zip]
    rw [this]
    exact List.getElem_mem _
  refine ⟨fun s => numAt ((symsOf rs).zip X) s, ?_, ?_, ?_, ?_, ?_, ?_⟩
  · intro s hs
    obtain ⟨i, hi, rfl⟩ := hpos s hs
    exact ⟨X[i]'(by omega), (hmem _ _).mpr (hmemz i hi)⟩
  · intro s z hz
    obtain ⟨i, hi, e⟩ := List.getElem_of_mem ((hmem _ _).mp hz)
    rw [List.getElem_zip] at e
    cases e
    rw [List.length_zip] at hi
    exact (hsz i (by omega)).symm
  · intro s hs
    obtain ⟨i, hi, rfl⟩ := hpos s hs
    show 1 ≤ numAt _ _ ∧ numAt _ _ ≤ (M : Int)
    rw [hsz i hi]
    exact hX1 _ (List.getElem_mem _)
  · -- the rarer has no shorter code
    have hrow : ∀ i (hi : i < T0.length), ∃ p, ∃ hp : p < n, (rs[p]'(by rw [F.len]; exact hp)).1 = fs.getD i 0 ∧ T0[i] = (symsOf rs)[p]'(by omega) := by
      intro i hi
      have hfl := B.hl
      have hm : flipE (T0[i], fs.getD i 0) ∈ rs := by
        rw [hp.mem_iff, worth_built B]
        refine List.mem_map.mpr ⟨_, ?_, rfl⟩
        have : (T0[i], fs.getD i 0) = (T0.zip fs)[i]'(by rw [List.length_zip]; omega) := by
          rw [List.getElem_zip]
          simp [List.getD, hfl, hi]
        rw [this]
        exact List.getElem_mem _
      obtain ⟨q, hq, e⟩ := List.getElem_of_mem hm
      refine ⟨q, by rw [← F.len]; exact hq, by rw [e]; rfl, ?_⟩
      rw [syms_at hq, e]
      simp [flipE]
    intro i j hi hj hlt
    obtain ⟨p, hp1, ep, ep2⟩ := hrow i hi
    obtain ⟨q, hq1, eq, eq2⟩ := hrow j hj
    dsimp only at hlt
    rw [ep2, eq2, hsz p hp1, hsz q hq1] at hlt
    rw [← ep, ← eq]
    have hle : rs.Pairwise (fun a b => a.1 ≤ b.1) := hpw.imp fun h => lex_le h
    by_cases hpq : p < q
    · exfalso
      have := List.pairwise_iff_getElem.mp hXm p q (by omega) (by omega) hpq
      omega
    · by_cases e : p = q
      · subst e; exact Int.le_refl _
      · exact List.pairwise_iff_getElem.mp hle q p (by rw [F.len]; exact hq1) (by rw [F.len]; exact hp1) (by omega)
  · -- the cost
    intro Mv hM1 hM2
    have hfne : fs ≠ [] := by
      intro h
      have := B.hl
      rw [h] at this
      simp at this
      omega
    have hWl : (rs.map (·.1)).length = n := by rw [List.length_map, F.len]
    have hle : (rs.map (·.1)).Pairwise (· ≤ ·) := by
      rw [List.pairwise_map]
      exact hpw.imp fun h => lex_le h
    have hS : ((T0.zip fs).map fun e => numAt ((symsOf rs).zip X) e.1 * e.2).sum = dotX X (rs.map (·.1)) := by
      have e1 : ((T0.zip fs).map fun e => numAt ((symsOf rs).zip X) e.1 * e.2) = ((T0.zip fs).map flipE).map fun r => numAt ((symsOf rs).zip X) (-r.2) * r.1 := by
        rw [List.map_map]
        refine List.map_congr_left fun e _ => ?_
        simp [flipE]
      refine (congrArg List.sum e1).trans ((sumI_perm ((hp.trans (.of_eq (worth_built B))).map fun r => numAt ((symsOf rs).zip X) (-r.2) * r.1)).symm.trans (.trans (congrArg List.sum ?_) (dotX_sum X (rs.map (·.1)))))
      apply List.ext_getElem
      · simp [F.len, hXl]
      · intro i h1 h2
        have hi : i < n := by simpa [F.len] using h1
        have hir : i < rs.length := by rw [F.len]; exact hi
        rw [List.getElem_map, List.getElem_zipWith, List.getElem_map, ← syms_at hir, hsz i hi]
    show ((T0.zip fs).map fun e => numAt ((symsOf rs).zip X) e.1 * e.2).sum = Mv
    rw [hS]
    apply Int.le_antisymm
    · obtain ⟨r, hr, rfl⟩ := List.mem_map.mp hM1
      obtain ⟨ks, k1, k2, k3, rfl⟩ := (allRows_mem hfne).mp hr
      obtain ⟨ks', p1, p2⟩ := perm_lift F.ws.symm ks k1
      obtain ⟨Y, hY, hYle⟩ := low_bound B.n1 B.n4 B.hM hWl hle (fun x hx => by
        obtain ⟨r, hr, rfl⟩ := List.mem_map.mp hx
        have := F.pos r hr
        omega) (ks := ks') (by rw [p1.length_eq, k1, ← F.ws.length_eq, hWl]) (fun k hk => k2 k (p1.mem_iff.mp hk)) (by rw [useK_perm M p1]; exact k3)
      have := hbest Y hY
      dsimp only
      omega
    · obtain ⟨ks', p1, p2⟩ := perm_lift F.ws (X.map fun x => (x - 1).toNat) (by rw [List.length_map, hXl, hWl])
      rw [dotK_of _ _ fun x hx => (hX1 x hx).1] at p2
      refine hM2 _ (List.mem_map.mpr ⟨(dotK fs ks', useK M ks'), (allRows_mem hfne).mpr ⟨ks', ?_, ?_, ?_, rfl⟩, p2⟩)
      · rw [p1.length_eq, List.length_map, hXl, ← F.ws.length_eq, hWl]
      · intro k hk
        obtain ⟨x, hx, rfl⟩ := List.mem_map.mp (p1.mem_iff.mp hk)
        have := hX1 x hx
        omega
      · rw [useK_perm M p1]; exact hXu
  · have hfne : fs ≠ [] := by
      intro h
      have := B.hl
      rw [h] at this
      simp at this
      omega
    obtain ⟨ks', p1, p2⟩ := perm_lift F.ws (X.map fun x => (x - 1).toNat) (by rw [List.length_map, hXl, List.length_map, F.len])
    have hin : (dotK fs ks', useK M ks') ∈ allRows M fs := by
      refine (allRows_mem hfne).mpr ⟨ks', ?_, ?_, ?_, rfl⟩
      · rw [p1.length_eq, List.length_map, hXl, ← F.ws.length_eq, List.length_map, F.len]
      · intro k hk
        obtain ⟨x, hx, rfl⟩ := List.mem_map.mp (p1.mem_iff.mp hk)
        have := hX1 x hx
        omega
      · rw [useK_perm M p1]; exact hXu
    exact List.ne_nil_of_mem hin
end
section
open PyProof.Rows.LCg PyProof.Rows.LCt PyProof.Rows.LCp
set_option maxRecDepth 100000
set_option maxHeartbeats 8000000
section
variable {prog : Program} {w : World} {A : Around} {E : Value → Shared → Prop} {s : Shared} {env : Env} {h₀ : Heap} {L : Addr} {m : Str → Option Value}
noncomputable def SrcTup (prog : Program) (w : World) (A : Around) (h₀ : Heap) (L : Addr) (m : Str → Option Value) (R : Addr → Obj → Array Value → Shared → List (Addr × Obj) → Prop) (xv : Value) (s₁ : Shared) : Prop :=
  ∃ ax n its news, xv = .ref ax ∧ A.handled = none ∧ Fr h₀ L s₁.heap m ∧ News h₀ L s₁.heap news ∧ (ax, ({ cls := .type "tuple", data := .seq its n } : Obj)) ∈ news ∧ its.size ≤ sizeLine ∧
    ∀ s₂ : Shared, (∃ h, s₂ = { s₁ with heap := h }) → R ax { cls := .type "tuple", data := .seq its n } its s₂ news
theorem tup_st {ax I : Addr} {its : Array Value} {n : Nat} : ∀ i (h h' : Heap) (o : Obj) (nw : List (Addr × Obj)), (h.IsTupleIter I ax i ∧ h.IsTuple ax its) → h.get? I = some o → h'.get? I = some o → (∀ b o, h₀.get? b = some o → h'.get? b = some o) → News h₀ L h' nw → (ax, ({ cls := .type "tuple", data := .seq its n } : Obj)) ∈ nw → (h'.IsTupleIter I ax i ∧ h'.IsTuple ax its) :=
  fun i h h' o nw st e e' k N S => ⟨by obtain ⟨o', q, r⟩ := st.1; rw [e] at q; cases q; exact ⟨o, e', r⟩, ⟨_, (N _ S).1, rfl, n, rfl⟩⟩
theorem comp_tupU {elt iter : PySem.Expr} {x : Str} {px : Pos} {scope : Scope} {cl : List (Str × Addr)} {pos : Pos} {Q : Value → Shared → Prop} (F₀ : Fr h₀ L s.heap m)
    (hclos : closureFor scope env = pure cl) (hcell : ∀ y ∈ scope.names, y.2 ≠ .cell) (hkind : scope.kind = .function)
    (hnames : ∀ y ∈ scope.names, y.2 = .local → scope.names.lookup y.1 = some .local) (hx : scope.names.lookup x = some .local)
    (h : wpAny (model prog w) A (eval iter env) (SrcTup prog w A h₀ L m (fun ax o its s₂ news => CompRest prog w A h₀ L m env elt x scope cl s₂ (fun nw => (ax, o) ∈ nw) (fun i v => its[i]? = some v) (FinE h₀ L m s₂ Q) its.size 0 [] news)) E s)
    (hs : ∀ x, foldedSetIterable iter env x = pure x := by intro _; rfl) :
    wpAny (model prog w) A (eval (.ListComp elt [⟨.Name x px, iter, [], 0⟩] scope pos) env) Q E s := by
  rw [eval_ListComp]
  refine wpAny_comprehension_free (use := none) rfl hs hclos hkind hnames (wpAny_mono h (fun xv s₁ h₁ => ?_) fun _ _ e => e)
  obtain ⟨ax, n, its, news, rfl, hh, F, N, hm, hsz, R⟩ := h₁
  have hl : s₁.heap.IsTuple ax its := ⟨_, (N _ hm).1, rfl, n, rfl⟩
  have hlt : ax < s₁.heap.objs.size := Heap.lt_size (N _ hm).1
  refine wpAny_pyIter_tuple hl ?_
  have up : ∀ b o, s₁.heap.get? b = some o → (s₁.heap.push { cls := .type "tuple_iterator", data := .fields #[.ref ax, .int 0 0] }).get? b = some o := fun b o e => Heap.get?_push_of_some _ e
  refine block_U (Walks.tuple hh s₁.heap.objs.size ax (Nat.ne_of_lt hlt) its) hsz (fun i h st => by obtain ⟨o, e, _⟩ := st.1; exact ⟨o, e⟩) (tup_st (n := n)) hcell hkind hx ⟨⟨_, Heap.get?_push_size _ rfl, rfl, rfl⟩, hl.at fun o e => Heap.get?_push_of_some _ e⟩ (fun b hb => ?_)
    (F.keeps up) (N.grown up) (Nat.ne_of_lt F.ns.lt) (next_is_new F) (fun p hp => Nat.ne_of_lt (Heap.lt_size (N p hp).1)) hm (R _ ⟨_, rfl⟩) ?_
  · show b < (s₁.heap.push _).objs.size
    rw [Heap.size_push]
    rcases List.mem_cons.mp hb with rfl | hb
    · exact Nat.lt_succ_self _
    · rw [List.mem_singleton.mp hb]; exact Nat.lt_succ_of_lt hlt
  · intro D C h tk m' ys news' F' N' o1 hn hC₀ hD₀ hCL hDL hCD offC fin
    refine ⟨m', hn, fun h'' hs'' => fin D h'' tk (F'.change hs'' hCL hC₀) (fun p hp => ?_) o1⟩
    refine ⟨hs''.extBut _ _ ?_ (N' p hp).1, (N' p hp).2⟩
    rcases List.mem_cons.mp hp with rfl | hp
    · exact Ne.symm hCD
    · exact offC p hp
end
end
section
open PyProof.Rows.LCg PyProof.Rows.LCt PyProof.Rows.LCp
set_option maxRecDepth 100000
set_option maxHeartbeats 16000000

theorem pick3 {a1 a2 a3 : Addr} {r : Int} (h0 : 0 ≤ r) (h1 : r < 3) {R : List (Addr × Obj)} {v1 v2 v3 : List Value} (m1 : (a1, listOf v1.toArray 0) ∈ R) (m2 : (a2, listOf v2.toArray 0) ∈ R) (m3 : (a3, listOf v3.toArray 0) ∈ R)
    (i1 : IntsAre v1 [0, 1, 2, 3]) (i2 : IntsAre v2 [5, 240, 17, 2]) (i3 : IntsAre v3 [9, 8, 7, 1]) : ∃ ls us S, [Value.ref a1, Value.ref a2, Value.ref a3][r.toNat]? = some (Value.ref ls) ∧ (ls, listOf us.toArray 0) ∈ R ∧ IntsAre us S ∧ S ∈ symLists := by
  have : r = 0 ∨ r = 1 ∨ r = 2 := by omega
  rcases this with rfl | rfl | rfl
  · exact ⟨a1, v1, _, rfl, m1, i1, by simp [symLists]⟩
  · exact ⟨a2, v2, _, rfl, m2, i2, by simp [symLists]⟩
  · exact ⟨a3, v3, _, rfl, m3, i3, by simp [symLists]⟩
theorem sym_len {S : List Int} (h : S ∈ symLists) : S.length = 4 := by
  simp only [symLists, List.mem_cons, List.not_mem_nil, or_false] at h
  rcases h with rfl | rfl | rfl <;> rfl

theorem ints_look {vs : List Value} {ns : List Int} (h : IntsAre vs ns) {i : Nat} {v : Value} (hv : vs[i]? = some v) : ∃ (hj : i < ns.length) (t : Tok), v = .int ns[i] t := by
  obtain ⟨n, t, rfl, hn⟩ := h.at i v hv
  obtain ⟨hj, rfl⟩ := List.getElem?_eq_some_iff.mp hn
  exact ⟨hj, t, rfl⟩
theorem sym_100 {S : List Int} (h : S ∈ symLists) : (100 : Int) ∉ S := by
  simp only [symLists, List.mem_cons, List.not_mem_nil, or_false] at h
  rcases h with rfl | rfl | rfl <;> decide
theorem nodup_take {T0 : List Int} (h : T0.Nodup) {i : Nat} (hi : i < T0.length) : T0[i] ∉ T0.take i := by
  intro hm
  obtain ⟨j, hj, e⟩ := List.getElem_of_mem hm
  rw [List.getElem_take] at e
  rw [List.length_take] at hj
  have := (List.getElem_inj h).mp e
  omega
theorem sym_nodup {S : List Int} (h : S ∈ symLists) : S.Nodup := by
  simp only [symLists, List.mem_cons, List.not_mem_nil, or_false] at h
  rcases h with rfl | rfl | rfl <;> decide
theorem zip_keys {T0 fs : List Int} {i : Nat} (h : fs.length = i) (hi : i ≤ T0.length) : ((T0.take i).zip fs).map (·.1) = T0.take i := by
  rw [List.map_fst_zip (by rw [List.length_take]; omega)]
theorem zip_snoc {T0 fs : List Int} {i : Nat} (h : fs.length = i) (hi : i < T0.length) (f : Int) : (T0.take (i + 1)).zip (fs ++ [f]) = (T0.take i).zip fs ++ [(T0[i], f)] := by
  rw [List.take_add_one, List.getElem?_eq_getElem hi]
  rw [List.zip_append (by rw [List.length_take]; omega)]
  rfl
inductive LawI (w : World) (s₁ : Shared) (d ys l : Addr) (us : List Value) (n : Nat) (o4 o3 o1' : Obj) (T0 : List Int) (r2 : Int) (tk3 : Tok) (i : Nat) (m : Str → Option Value) (nx : List (Addr × Obj)) : Prop
  | mk (o o2 : Obj) (v2 : Option Value) (kvs : List (Int × Value)) (fs : List Int) (x b : Int) (tx tb : Tok) (c : Nat) (e0 : nx = [(d, o), (ys, listOf (us.take n).toArray 0), (l, listOf #[Value.int x tx, Value.int b tb] c), (s₁.heap.objs.size + 1 + 1 + 1 + 1, o4), (s₁.heap.objs.size + 1 + 1 + 1, o3), (s₁.heap.objs.size + 1 + 1, o2), (s₁.heap.objs.size + 1, o1')]) (e1 : o2.data = .cell v2) (e2 : o.IsDictOf (intKind PySem.Challenge.rw_nt0548_01.row.prog w) kvs) (e3 : IntPairs kvs ((T0.take i).zip fs)) (e4 : fs.length = i) (e5 : (∀ f ∈ fs, 1 ≤ f ∧ f ≤ 40)) (e6 : 0 ≤ x) (e7 : 0 ≤ b) (e8 : b < 2147483647) (e9 : m (Str.ofString "source") = some (.ref l)) (e10 : m (Str.ofString "symbols") = some (.ref ys)) (e11 : m (Str.ofString "most") = some (.int (3 + r2) tk3)) : LawI w s₁ d ys l us n o4 o3 o1' T0 r2 tk3 i m nx
inductive LawB (w : World) (s₁ : Shared) (d l lc ys : Addr) (us : List Value) (n : Nat) (o4 o3 oc2 o1' : Obj) (cvs : List Value) (cc : Nat) (T0 fs : List Int) (m : Str → Option Value) (r2 : Int) (tk3 : Tok) (f : Flow) (s : Shared) : Prop
  | mk (e : f = .next) (h' : Heap) (tk' : Nat) (od : Obj) (kvs' : List (Int × Value)) (es : List (Int × Int)) (x b : Int) (tx tb : Tok) (c : Nat) (e0 : s = { s₁ with heap := h', toks := tk' }) (e1 : Fr s₁.heap s₁.heap.objs.size h' (fun y => if y = Str.ofString "counts" then some (.ref lc) else if y = Str.ofString "source" then some (.ref l) else if y = Str.ofString "symbols" then some (.ref ys) else if y = Str.ofString "most" then some (.int (3 + r2) tk3) else m y)) (e2 : News s₁.heap s₁.heap.objs.size h' [(d, od), (l, listOf #[Value.int x tx, Value.int b tb] c), (lc, listOf cvs.toArray cc), (ys, listOf (us.take n).toArray 0), (s₁.heap.objs.size + 1 + 1 + 1 + 1, o4), (s₁.heap.objs.size + 1 + 1 + 1, o3), (s₁.heap.objs.size + 1 + 1, oc2), (s₁.heap.objs.size + 1, o1')]) (e3 : od.IsDictOf (intKind PySem.Challenge.rw_nt0548_01.row.prog w) kvs') (e4 : IntPairs kvs' es) (e5 : (es = T0.zip fs ∨ es = T0.zip fs ++ [(100, 0)])) (e6 : 0 ≤ x) (e7 : 0 ≤ b) (e8 : b < 2147483647) : LawB w s₁ d l lc ys us n o4 o3 oc2 o1' cvs cc T0 fs m r2 tk3 f s

theorem intsDat {L9 : List (Addr × Obj)} {vs : List Value} {ns : List Int} (h : IntsAre vs ns) : DatAll L9 vs (ns.map .int) := by
  induction h with
  | nil => exact .nil
  | cons n t _ ih => exact .cons (.int n t) ih
theorem pair_in {L9 : List (Addr × Obj)} {v : Value} {a b : List Dat} (h : DatIn L9 v (.tuple [.tuple a, .tuple b])) : ∃ (p p1 p2 : Addr) (n n1 n2 : Nat) (vs1 vs2 : List Value), v = .ref p ∧ (p, ({ cls := .type "tuple", data := .seq (List.toArray [.ref p1, .ref p2]) n } : Obj)) ∈ L9 ∧
    (p1, ({ cls := .type "tuple", data := .seq vs1.toArray n1 } : Obj)) ∈ L9 ∧ (p2, ({ cls := .type "tuple", data := .seq vs2.toArray n2 } : Obj)) ∈ L9 ∧ DatAll L9 vs1 a ∧ DatAll L9 vs2 b := by
  cases h with
  | tuple hm hr =>
    cases hr with
    | cons h1 hr =>
      cases hr with
      | cons h2 hr =>
        cases hr
        cases h1 with
        | tuple m1 r1 =>
          cases h2 with
          | tuple m2 r2 => exact ⟨_, _, _, _, _, _, _, _, rfl, hm, m1, m2, r1, r2⟩
theorem datInts {L9 : List (Addr × Obj)} : ∀ {vs : List Value} {ns : List Int}, DatAll L9 vs (ns.map .int) → IntsAre vs ns
  | _, [], h => by cases h; exact .nil
  | _, n :: ns, h => by
    cases h with
    | cons h1 hr => cases h1; exact .cons _ _ (datInts hr)
theorem CodePairs.keepC {N1 N2 : List (Addr × Obj)} (hs : ∀ p ∈ N1, (∀ c, p.2.data ≠ .cell c) → p ∈ N2) : ∀ {kvs : List (Int × Value)} {es : List (Int × Int)}, CodePairs N1 kvs es → CodePairs N2 kvs es
  | _, _, .nil => .nil
  | _, _, .cons hm hr => .cons (hs _ hm (fun c h => nomatch h)) (CodePairs.keepC hs hr)
theorem TableIn.keepC {w : World} {N1 N2 : List (Addr × Obj)} {v : Value} {es : List (Int × Int)} (h : TableIn w N1 v es) (hs : ∀ p ∈ N1, (∀ c, p.2.data ≠ .cell c) → p ∈ N2) : TableIn w N2 v es := by
  obtain ⟨x, dx, cd, o, kvs, t1, t2, t3, t4, lc, ls, lr, rfl, hx, hdx, hlo, hcd, ho, hcp⟩ := h
  refine ⟨x, dx, cd, o, kvs, t1, t2, t3, t4, lc, ls, lr, rfl, hs _ hx (fun c h => nomatch h), hs _ hdx (fun c h => nomatch h), hlo, hs _ hcd ?_, ho, hcp.keepC hs⟩
  intro c h
  obtain ⟨_, _, _, hd, _⟩ := ho
  rw [h] at hd
  cases hd

theorem any_false : ∀ k : Nat, (List.replicate k false).any id = false
  | 0 => rfl
  | k + 1 => by rw [List.replicate_succ, List.any_cons, any_false k]; rfl
theorem es_at {T0 fs : List Int} {es : List (Int × Int)} (hl : fs.length = T0.length) (hes : es = T0.zip fs ∨ es = T0.zip fs ++ [(100, 0)]) {k : Nat} (hk : k < T0.length) : ∃ h : k < es.length, es[k] = (T0[k], fs.getD k 0) := by
  have hz : k < (T0.zip fs).length := by rw [List.length_zip]; omega
  have e0 : (T0.zip fs)[k] = (T0[k], fs.getD k 0) := by
    rw [List.getElem_zip]
    simp [List.getD, hl, hk]
  rcases hes with rfl | rfl
  · exact ⟨hz, e0⟩
  · refine ⟨by rw [List.length_append]; omega, ?_⟩
    rw [List.getElem_append_left hz, e0]
theorem bools_snoc {vs : List Value} {bs : List Bool} (h : LSm.BoolsAre vs bs) (b : Bool) : LSm.BoolsAre (vs ++ [.bool b]) (bs ++ [b]) := by
  induction h with
  | nil => exact .cons b .nil
  | cons c _ ih => exact .cons c ih
inductive LawJ (s₁ : Shared) (R0 : List (Addr × Obj)) (T0 fs : List Int) (sz : Int → Int) (lc l ys : Addr) (M : Nat) (tk3 : Tok) (i : Nat) (m : Str → Option Value) (nx : List (Addr × Obj)) : Prop
  | mk (o4 o2 : Obj) (v4 v2 : Option Value) (tc : Tok) (e0 : nx = (s₁.heap.objs.size + 1 + 1 + 1 + 1, o4) :: (s₁.heap.objs.size + 1 + 1, o2) :: R0) (e1 : o4.data = .cell v4) (e2 : o2.data = .cell v2) (e3 : m (Str.ofString "cost") = some (.int (((T0.zip fs).take i).map fun e => sz e.1 * e.2).sum tc)) (e4 : m (Str.ofString "counts") = some (.ref lc)) (e5 : m (Str.ofString "source") = some (.ref l)) (e6 : m (Str.ofString "symbols") = some (.ref ys)) (e7 : m (Str.ofString "most") = some (.int (M : Int) tk3)) : LawJ s₁ R0 T0 fs sz lc l ys M tk3 i m nx
theorem law_walk (P : Prop) (hP : PySem.Challenge.rw_nt0548_01.Holds → P) : P := hP (hd _ (by dsimp only [fdK, topB, stmtK, bodyOf, argsOf, scopeOf, Stmt.pos, PySem.Challenge.pw_nt0548_01]; first | done | exact rfl) (by
  clear hP P
  k_go0
  all_goals try k_fold
  rename_i w s₀ s₁ mg mb G Y fa oF pmF doc hoF hgens KX XM VL GL T TB TE TW wA wO MB wB cdv hcd ns hs hlay0 hL hr hl2 w1 w2 sl vs w3 hL2 ra w4 r0 hI hr2 hcond1 hcond2 K0 hDf h₁ tk₁ F o4 o3 o2 o1 d4 d3 d2 d1 N X0
  clear X0 hDf hr2 r0 ra hl2 hr hL hlay0 hs
  have ks0 : KS "eval ListComp" := ⟨⟩; have ks1 : KS "pyIter ref" := ⟨⟩; have ks2 : KS "call ref" := ⟨⟩; have ks3 : KS "compareOp NotEq ref ref" := ⟨⟩; have ks4 : KS "exec For" := ⟨⟩; have ks5 : KS "setItem" := ⟨⟩; have ks6 : KS "subscriptTail" := ⟨⟩; have ks7 : KS "UnrEndW" := ⟨⟩; have ks8 : KS "call type:list" := ⟨⟩
  k_steps
  all_goals (try dsimp only at *)
  unfold Stop
  have kM := kdMark
  have kM2 := kstMark
  have hcL := cLine_is
  replace d1 : o1.data = .cell none := d1
  replace d2 : o2.data = .cell none := d2
  replace d3 : o3.data = .cell none := d3
  replace d4 : o4.data = .cell none := d4
  replace K0 : Below callerA s₁.heap [] s₁.heap := K0
  refine pool_tells w _ _ _ sl vs ns _ _ _ _ _ _ _ _ _ _ _ _ _ _ _ _ _ _ K0 F KX N T rfl hL2 hI (by omega) (by decide) (by decide) ?_
  intro l x1 b1 tx1 tb1 c1 h2 tk2 hx hb0 hb1 F2 N2 lt2
  dsimp only
  k_steps
  unfold Stop
  refine take_use (pre := []) K0 (by assumption) KX (by assumption) T rfl rfl (fun _ h => nomatch h) ?_ hx hb0 hb1 (by decide) (by decide) (by decide) (by decide) ?_
  · exact fun p hp => Nat.ne_of_lt (lt2 p hp)
  clear hx hb0 hb1
  intro r2 t2 x2 b2 tx2 tb2 c2 h3 tk3 hr0 hr2 hx hb0 hb1 F3 N3
  skip
  dsimp only
  k_steps
  rename_i _ a1 _ lt1 a2 _ lt2b a3 _ lt3 a4 h4 F4 N4 lt4
  unfold Stop
  refine take_use (pre := [_, _, _, _]) (post := [(s₁.heap.objs.size + 1 + 1 + 1 + 1, o4), (s₁.heap.objs.size + 1 + 1 + 1, o3), (s₁.heap.objs.size + 1 + 1, o2), (s₁.heap.objs.size + 1, o1)]) K0 F4 KX N4 T rfl rfl ?_ (fun p hp => Nat.ne_of_lt (lt2 p hp)) hx hb0 hb1 (by decide) (by decide) (by decide) (by decide) ?_
  · simp only [List.forall_mem_cons, List.not_mem_nil, false_implies, implies_true, and_true]
    exact ⟨Nat.ne_of_gt lt4.2.2.2.1, Nat.ne_of_gt lt3.2.2.1, Nat.ne_of_gt lt2b.2.1, Nat.ne_of_gt (lt1 _ List.mem_cons_self)⟩
  clear hx hb0 hb1
  intro r3 t3 x3 b3 tx3 tb3 c3 h5 tk5 hs0 hs1 hx hb0 hb1 F5 N5
  clear F4 N4
  dsimp only
  k_steps
  unfold Stop
  obtain ⟨ls, us, S, hls, mls, hIS, hS⟩ := pick3 hs0 hs1 (R := [(a4, listOf #[Value.ref a1, Value.ref a2, Value.ref a3] 0), (a3, listOf [Value.int 9 (tk + 1 + 1 + 1 + 1 + 1 + 1 + 1 + 1), Value.int 8 (tk + 1 + 1 + 1 + 1 + 1 + 1 + 1 + 1 + 1), Value.int 7 (tk + 1 + 1 + 1 + 1 + 1 + 1 + 1 + 1 + 1 + 1), Value.int 1 (tk + 1 + 1 + 1 + 1 + 1 + 1 + 1 + 1 + 1 + 1 + 1)].toArray 0),
    (a2, listOf [Value.int 5 (tk + 1 + 1 + 1 + 1), Value.int 240 (tk + 1 + 1 + 1 + 1 + 1), Value.int 17 (tk + 1 + 1 + 1 + 1 + 1 + 1), Value.int 2 (tk + 1 + 1 + 1 + 1 + 1 + 1 + 1)].toArray 0), (a1, listOf [Value.int 0 tk, Value.int 1 (tk + 1), Value.int 2 (tk + 1 + 1), Value.int 3 (tk + 1 + 1 + 1)].toArray 0)]) (a1 := a1) (a2 := a2) (a3 := a3)
    (List.mem_cons_of_mem _ (List.mem_cons_of_mem _ (List.mem_cons_of_mem _ List.mem_cons_self))) (List.mem_cons_of_mem _ (List.mem_cons_of_mem _ List.mem_cons_self)) (List.mem_cons_of_mem _ List.mem_cons_self) (.cons 0 _ (.cons 1 _ (.cons 2 _ (.cons 3 _ .nil)))) (.cons 5 _ (.cons 240 _ (.cons 17 _ (.cons 2 _ .nil)))) (.cons 9 _ (.cons 8 _ (.cons 7 _ (.cons 1 _ .nil))))
  have hSl := sym_len hS
  have hul : us.length = 4 := by have := hIS.length; omega
  have N6 : News s₁.heap s₁.heap.objs.size h5 [(ls, listOf us.toArray 0), (l, listOf #[Value.int x3 tx3, Value.int b3 tb3] c3), (s₁.heap.objs.size + 1 + 1 + 1 + 1, o4), (s₁.heap.objs.size + 1 + 1 + 1, o3), (s₁.heap.objs.size + 1 + 1, o2), (s₁.heap.objs.size + 1, o1)] := by
    intro p hp
    rcases List.mem_cons.mp hp with rfl | hp
    · exact N5 _ (List.mem_append_left _ mls)
    · exact N5 _ (List.mem_append_right _ hp)
  have hlsl : ls ≠ l := by
    simp only [List.mem_cons, List.not_mem_nil, or_false, Prod.mk.injEq] at mls
    rcases mls with ⟨rfl, -⟩ | ⟨rfl, -⟩ | ⟨rfl, -⟩ | ⟨rfl, -⟩
    · exact Nat.ne_of_gt lt4.2.2.2.1
    · exact Nat.ne_of_gt lt3.2.2.1
    · exact Nat.ne_of_gt lt2b.2.1
    · exact Nat.ne_of_gt (lt1 _ List.mem_cons_self)
  refine item_at (us := [Value.ref a1, Value.ref a2, Value.ref a3]) (n := 0) N5 hls (by simp) hs0 (by omega) ?_
  clear N5 mls lt1 lt2b lt3 lt4
  k_steps
  unfold Stop
  refine take_use (pre := [_]) (post := [(s₁.heap.objs.size + 1 + 1 + 1 + 1, o4), (s₁.heap.objs.size + 1 + 1 + 1, o3), (s₁.heap.objs.size + 1 + 1, o2), (s₁.heap.objs.size + 1, o1)]) K0 F5 KX N6 T rfl rfl (by simpa using hlsl) (fun p hp => Nat.ne_of_lt (lt2 p hp)) hx hb0 hb1 (by decide) (by decide) (by decide) (by decide) ?_
  clear hx hb0 hb1
  intro r4 t4 x b tx tb c h7 tk7 hv0 hv1 hx hb0 hb1 F7 N7
  clear F5 N6
  dsimp only
  k_steps
  unfold Stop
  refine kba_turn (value' := PySem.Expr.Name (PySem.Str.ofString "_") ⟨0, 0, 0, 0⟩) (fun _ => rfl) ?_
  refine slice_at F7 N7 List.mem_cons_self (by rw [sizeLine_eq]; omega) (by omega) ?_ (by with_unfolding_all rfl) (by kmk_pure)
  intro ys h8 F8 N8 lt8
  clear F7 N7
  obtain ⟨n, hn⟩ : ∃ n, (1 + r4).toNat = n := ⟨_, rfl⟩
  rw [hn] at N8
  have hn1 : 1 ≤ n := by omega
  have hn4 : n ≤ 4 := by omega
  replace N8 : News s₁.heap s₁.heap.objs.size h8 [(ys, listOf (us.take n).toArray 0), (l, listOf #[Value.int x tx, Value.int b tb] c), (s₁.heap.objs.size + 1 + 1 + 1 + 1, o4), (s₁.heap.objs.size + 1 + 1 + 1, o3), (s₁.heap.objs.size + 1 + 1, o2), (s₁.heap.objs.size + 1, o1)] := by
    intro p hp
    rcases List.mem_cons.mp hp with rfl | hp
    · exact N8 _ List.mem_cons_self
    · exact N8 _ (List.mem_cons_of_mem _ (List.mem_cons_of_mem _ hp))
  have ltl : @LT.lt Nat _ (s₁.heap.objs.size + 1 + 1 + 1 + 1) l := lt2 _ List.mem_cons_self
  have ltys : @LT.lt Nat _ l ys := lt8 (l, listOf #[Value.int x tx, Value.int b tb] c) (by simp)
  clear lt8 lt2
  have ksD : KS "exec Assign cons Dict" := ⟨⟩
  k_steps
  unfold Stop
  clear ksD
  have ksS : KS "storeName" := ⟨⟩
  k_steps
  unfold Stop
  clear ksS
  rename_i d h9 oD F9 N9 loD hsD fsD hiD fiD ltD
  refine' storeX_C ?qF ?qN ?qc ?qU ?qd ?_ ?q1 ?q2
  case q1 => rfl
  case q2 => rfl
  case qF => exact F9
  case qN => exact N9
  case qc => rfl
  case qU => k_updF
  case qd => exact d1
  k_whole
  clear F9 N9
  intro h10 o1' F10 N10 d1'
  (try dsimp only at N10)
  have ksE : KS "execs cons" := ⟨⟩
  k_steps
  unfold Stop
  clear ksE
  dsimp only
  refine wpAny_execs_cons ?_
  clear hsD fsD fiD d1
  as_aux_lemma =>
    obtain ⟨LL, hLL⟩ : ∃ LL, s₁.heap.objs.size = LL := ⟨_, rfl⟩
    obtain ⟨T0, hT0⟩ : ∃ T0, S.take n = T0 := ⟨_, rfl⟩
    have hT1 : T0.length = n := by rw [← hT0, List.length_take, hSl]; omega
    have hIT : IntsAre (us.take n) T0 := hT0 ▸ hIS.take n
    have hTn : T0.Nodup := by rw [← hT0]; exact (sym_nodup hS).sublist (List.take_sublist n S)
    have hlT := hIT.length
    obtain ⟨mR, FM⟩ : ∃ mR : Str → Option Value, Fr s₁.heap s₁.heap.objs.size h10 (fun y => if y = Str.ofString "symbols" then some (.ref ys) else if y = Str.ofString "source" then some (.ref l) else if y = Str.ofString "most" then some (.int (3 + r2) tk3) else mR y) := ⟨_, fr_as (fr_as (fr_as F10 (a := Str.ofString "most") rfl) (a := Str.ofString "source") rfl) (a := Str.ofString "symbols") rfl⟩
    clear F10
    refine For_turns FM ?_
    k_steps
    unfold Stop
    refine for_list (vs := us.take n) (n := 0) (LawI w s₁ d ys l us n o4 o3 o1' T0 r2 tk3)
      rfl FM N10 ?mem ?keep ⟨oD, o2, none, [], [], x, b, tx, tb, c, rfl, d2, hiD, IntPairs.nil, rfl, (fun _ h => nomatch h), hx, hb0, hb1, rfl, rfl, rfl⟩ ?turn ?done
    case mem => simp
    case keep =>
      rintro i m nx ⟨o, o2, v2, kvs, fs, x, b, tx, tb, c, rfl, -⟩
      simp
    case turn =>
      clear FM N10 hx hb0 hb1 d2
      rintro sx Q1 i v m nx I it h tk hi ⟨o, o2, v2, kvs, fs, x, b, tx, tb, c, rfl, d2, ho, hkv, hfl, hfp, hx, hb0, hb1, hm1, hm2, hm3⟩ hIo hc F5 N5
      have F6 := fr_as (fr_as (fr_as F5 (a := Str.ofString "most") hm3) (a := Str.ofString "symbols") hm2) (a := Str.ofString "source") hm1
      clear F5
      obtain ⟨hi', tc, rfl⟩ : ∃ (hj : i < T0.length) (t : Tok), v = .int T0[i] t := ints_look hIT hi
      obtain ⟨sym, hsym⟩ : ∃ c, T0[i] = c := ⟨_, rfl⟩
      rw [hsym] at hi ⊢
      have hI4 : @Ne Nat (s₁.heap.objs.size + 1 + 1 + 1 + 1) I := hIo (s₁.heap.objs.size + 1 + 1 + 1 + 1, o4) (by first | k_mem | simp)
      have hI3 : @Ne Nat (s₁.heap.objs.size + 1 + 1 + 1) I := hIo (s₁.heap.objs.size + 1 + 1 + 1, o3) (by first | k_mem | simp)
      have hI2 : @Ne Nat (s₁.heap.objs.size + 1 + 1) I := hIo (s₁.heap.objs.size + 1 + 1, o2) (by first | k_mem | simp)
      have hI1 : @Ne Nat (s₁.heap.objs.size + 1) I := hIo (s₁.heap.objs.size + 1, o1') (by first | k_mem | simp)
      have hId : @Ne Nat d I := hIo (d, o) (by first | k_mem | simp)
      have hIl : @Ne Nat l I := hIo (l, listOf #[Value.int x tx, Value.int b tb] c) (by first | k_mem | simp)
      have hIy : @Ne Nat ys I := hIo (ys, listOf (us.take n).toArray 0) (by first | k_mem | simp)
      k_steps
      unfold Stop
      rename_i h5 o2' F6 N6 d2'
      clear d2
      refine take_use (pre := [(I, it), (d, o), (ys, listOf (us.take n).toArray 0)]) (post := [(s₁.heap.objs.size + 1 + 1 + 1 + 1, o4), (s₁.heap.objs.size + 1 + 1 + 1, o3), (s₁.heap.objs.size + 1 + 1, o2'), (s₁.heap.objs.size + 1, o1')]) K0 F6 KX N6 T rfl rfl ?_ ?_ hx hb0 hb1 (by decide) (by decide) (by decide) (by decide) ?_
      · exact allc hIl.symm (allc (Nat.ne_of_gt ltD.2.1) (allc (Nat.ne_of_gt ltys) alln))
      · exact allc (Nat.ne_of_lt ltl) (allc (Nat.ne_of_lt (Nat.lt_of_le_of_lt (Nat.le_add_right _ 1) ltl)) (allc (Nat.ne_of_lt (Nat.lt_of_le_of_lt (Nat.le_add_right _ 2) ltl)) (allc (Nat.ne_of_lt (Nat.lt_of_le_of_lt (Nat.le_add_right _ 3) ltl)) alln)))
      clear hx hb0 hb1
      intro f t5 x b tx tb c h7 tk7 hf0 hf1 hx hb0 hb1 F7 N7
      clear F6 N6
      dsimp only
      k_steps
      unfold Stop
      have hnew : sym ∉ kvs.map (·.1) := by
        rw [hkv.1, zip_keys hfl (by omega), ← hsym]
        exact nodup_take hTn hi'
      have hkl : kvs.length ≤ sizeLine := by
        have h1 := hkv.length
        rw [List.length_zip, List.length_take] at h1
        rw [sizeLine_eq]; omega
      refine dict_set (own := [(I, it)]) (d := d) (rest := [(ys, listOf (us.take n).toArray 0), (l, listOf #[Value.int x tx, Value.int b tb] c), (s₁.heap.objs.size + 1 + 1 + 1 + 1, o4), (s₁.heap.objs.size + 1 + 1 + 1, o3), (s₁.heap.objs.size + 1 + 1, o2'), (s₁.heap.objs.size + 1, o1')]) F7 N7 (by simpa using hId.symm) ?_ ho hkl ?_
      · exact allc (Nat.ne_of_lt ltD.1) (allc (Nat.ne_of_lt ltD.2.1) (allc (Nat.ne_of_lt ltD.2.2.1) (allc (Nat.ne_of_lt ltD.2.2.2.1) (allc (Nat.ne_of_lt ltD.2.2.2.2.1) (allc (Nat.ne_of_lt ltD.2.2.2.2.2) alln)))))
      intro h8 od F8 N8 hod
      rw [stored_new hnew] at hod
      k_steps
      unfold Stop
      refine ⟨_, _, _, [(d, od), (ys, listOf (us.take n).toArray 0), (l, listOf #[Value.int x tx, Value.int b tb] c), (s₁.heap.objs.size + 1 + 1 + 1 + 1, o4), (s₁.heap.objs.size + 1 + 1 + 1, o3), (s₁.heap.objs.size + 1 + 1, o2'), (s₁.heap.objs.size + 1, o1')], rfl, F8, N8, ?_, od, o2', _, _, fs ++ [1 + f], x, b, tx, tb, c, rfl, d2', hod, ?_, by simp [hfl], ?_, hx, hb0, hb1, rfl, rfl, rfl⟩
      · refine fun p hp q hq => (List.mem_singleton.mp hq) ▸ ?_
        revert p
        exact allc hId (allc hIy (allc hIl (allc hI4 (allc hI3 (allc hI2 (allc hI1 alln))))))
      · rw [zip_snoc hfl hi', hsym]
        exact hkv.snoc sym (1 + f) _
      · intro g hg
        rcases List.mem_append.mp hg with hg | hg
        · exact hfp g hg
        · rw [List.mem_singleton.mp hg]; omega
    case done =>
      have hFl : KS "exec If" := ⟨⟩
      clear FM N10 hx hb0 hb1 d2
      rintro m nx h tk ⟨o, oc2, v2, kvs, fs, x, b, tx, tb, c, rfl, d2, ho, hkv, hfl, hfp, hx, hb0, hb1, hm1, hm2, hm3⟩ F5 N5
      have F6 := fr_as (fr_as (fr_as F5 (a := Str.ofString "most") hm3) (a := Str.ofString "symbols") hm2) (a := Str.ofString "source") hm1
      clear F5
      rw [hlT, List.take_length] at hkv
      rw [hlT] at hfl
      replace F6 : Fr s₁.heap s₁.heap.objs.size h (fun y => if y = Str.ofString "source" then some (.ref l) else if y = Str.ofString "symbols" then some (.ref ys) else if y = Str.ofString "most" then some (.int (3 + r2) tk3) else m y) := F6
      replace N5 : News s₁.heap s₁.heap.objs.size h [(d, o), (ys, listOf (us.take n).toArray 0), (l, listOf #[Value.int x tx, Value.int b tb] c), (s₁.heap.objs.size + 1 + 1 + 1 + 1, o4), (s₁.heap.objs.size + 1 + 1 + 1, o3), (s₁.heap.objs.size + 1 + 1, oc2), (s₁.heap.objs.size + 1, o1')] := N5
      k_steps
      unfold Stop
      rename_i dv h7 F7 N7 lt7
      have hkl : kvs.length ≤ 4 := by
        have h1 := hkv.length
        rw [List.length_zip] at h1
        omega
      refine kdl_list_valuesP (knd := PySem.intKind _ _) (by rfl) F7 N7 List.mem_cons_self (List.mem_cons_of_mem _ List.mem_cons_self) ho (by omega) ?_
      intro lc cc h8 tk8 F8 N8 lt8
      dsimp only
      k_steps
      unfold Stop
      rename_i h9 F9 N9
      replace N9 : News s₁.heap s₁.heap.objs.size h9 [(d, o), (l, listOf #[Value.int x tx, Value.int b tb] c), (lc, listOf (kvs.map (·.2)).toArray cc), (ys, listOf (us.take n).toArray 0), (s₁.heap.objs.size + 1 + 1 + 1 + 1, o4), (s₁.heap.objs.size + 1 + 1 + 1, o3), (s₁.heap.objs.size + 1 + 1, oc2), (s₁.heap.objs.size + 1, o1')] := by
        exact nsub N9 (allc (by k_mem) (allc (by k_mem) (allc (by k_mem) (allc (by k_mem) (allc (by k_mem) (allc (by k_mem) (allc (by k_mem) (allc (by k_mem) alln))))))))
      have ltc : d < lc ∧ ys < lc ∧ l < lc ∧ @LT.lt Nat _ (s₁.heap.objs.size + 1 + 1 + 1 + 1) lc := ⟨lt8 (d, o) (by first | k_mem | simp), lt8 (ys, listOf (us.take n).toArray 0) (by first | k_mem | simp), lt8 (l, listOf #[Value.int x tx, Value.int b tb] c) (by first | k_mem | simp), lt8 (s₁.heap.objs.size + 1 + 1 + 1 + 1, o4) (by first | k_mem | simp)⟩
      clear lt8 lt7; (try clear F8); (try clear N8); (try clear F7); (try clear N7); (try clear F6); (try clear N5)
      obtain ⟨cvs, hcvs⟩ : ∃ cvs, kvs.map (·.2) = cvs := ⟨_, rfl⟩
      have hIC : IntsAre cvs fs := by
        have h1 := hkv.2
        rw [hcvs] at h1
        rwa [List.map_snd_zip (by omega)] at h1
      rw [hcvs] at N9
      refine wpAny_mono (Q := LawB w s₁ d l lc ys us n o4 o3 oc2 o1' cvs cc T0 fs m r2 tk3) ?if1 ?if2 (fun _ _ h => h)
      case if1 =>
        clear hFl
        k_steps
        unfold Stop
        have hpC : ∀ p ∈ [(s₁.heap.objs.size + 1 + 1 + 1 + 1, o4), (s₁.heap.objs.size + 1 + 1 + 1, o3), (s₁.heap.objs.size + 1 + 1, oc2), (s₁.heap.objs.size + 1, o1')], p.1 ≠ l := by
          exact allc (Nat.ne_of_lt ltl) (allc (Nat.ne_of_lt (Nat.lt_of_le_of_lt (Nat.le_add_right _ 1) ltl)) (allc (Nat.ne_of_lt (Nat.lt_of_le_of_lt (Nat.le_add_right _ 2) ltl)) (allc (Nat.ne_of_lt (Nat.lt_of_le_of_lt (Nat.le_add_right _ 3) ltl)) alln)))
        refine take_use (pre := [(d, o)]) (post := [(lc, listOf cvs.toArray cc), (ys, listOf (us.take n).toArray 0), (s₁.heap.objs.size + 1 + 1 + 1 + 1, o4), (s₁.heap.objs.size + 1 + 1 + 1, o3), (s₁.heap.objs.size + 1 + 1, oc2), (s₁.heap.objs.size + 1, o1')]) K0 F9 KX N9 T rfl rfl (by simpa using Nat.ne_of_gt ltD.2.1) ?_ hx hb0 hb1 (by decide) (by decide) (by decide) (by decide) ?_
        · exact allc (Nat.ne_of_gt ltc.2.2.1) (allc (Nat.ne_of_gt ltys) hpC)
        clear hx hb0 hb1 F9 N9
        intro f t5 x b tx tb c h7 tk7 hf0 hf1 hx hb0 hb1 F7 N7
        dsimp only
        k_steps
        · unfold Stop
          have hnew : (100 : Int) ∉ kvs.map (·.1) := by
            rw [hkv.1, List.map_fst_zip (by omega), ← hT0]
            exact fun h => sym_100 hS (List.mem_of_mem_take h)
          refine dict_set (own := []) (d := d) (rest := [(l, listOf #[Value.int x tx, Value.int b tb] c), (lc, listOf cvs.toArray cc), (ys, listOf (us.take n).toArray 0), (s₁.heap.objs.size + 1 + 1 + 1 + 1, o4), (s₁.heap.objs.size + 1 + 1 + 1, o3), (s₁.heap.objs.size + 1 + 1, oc2), (s₁.heap.objs.size + 1, o1')]) F7 N7 (fun _ h => nomatch h) ?_ ho (by rw [sizeLine_eq]; omega) ?_
          · exact allc (Nat.ne_of_lt ltD.2.1) (allc (Nat.ne_of_gt ltc.1) (allc (Nat.ne_of_lt ltD.1) (allc (Nat.ne_of_lt ltD.2.2.1) (allc (Nat.ne_of_lt ltD.2.2.2.1) (allc (Nat.ne_of_lt ltD.2.2.2.2.1) (allc (Nat.ne_of_lt ltD.2.2.2.2.2) alln))))))
          intro h8 od F8 N8 hod
          rw [stored_new hnew] at hod
          k_steps
          exact ⟨rfl, h8, _, od, _, _, x, b, tx, tb, c, rfl, F8, N8, hod, hkv.snoc 100 0 _, .inr rfl, hx, hb0, hb1⟩
        · exact ⟨rfl, h7, _, o, kvs, _, x, b, tx, tb, c, rfl, F7, N7, ho, hkv, .inl rfl, hx, hb0, hb1⟩
      case if2 =>
        rintro f s ⟨rfl, h2, tk2, od, kvs2, es, xq, bq, txq, tbq, cq, rfl, F10, N10, hod, hkv2, hes, hxq, hbq0, hbq1⟩
        clear hFl hx hb0 hb1 F9 N9 ho
        obtain ⟨M, hM⟩ : ∃ M : Nat, 3 + r2 = (M : Int) := ⟨(3 + r2).toNat, by omega⟩
        have hM34 : M = 3 ∨ M = 4 := by omega
        rw [hM] at F10
        clear hM
        dsimp only
        k_steps
        unfold Stop
        as_aux_lemma =>
          have ks9 : KS "CompEnd" := ⟨⟩; have ks10 : KS "CompSrc" := ⟨⟩; have ks11 : KS "SrcTup" := ⟨⟩; have ks12 : KS "call builtin:sorted" := ⟨⟩
          have BU : Built S T0 fs n M es := ⟨hS, hT0, hn1, hn4, hfl, hfp, hes, hM34⟩
          refine tx_use (best_tells w _ mg mb) (es, M) K0 F10 KX N10 T rfl ⟨_, .inl ⟨_, rfl⟩, d, od, kvs2, rfl, List.mem_cons_self, loD, hod, hkv2⟩ (plain_best w BU) (by show callerA.depth + 1 + 24 < recursionLimit; decide) (by show callerA.units + 3 + 8 * 24 < cLine; decide) ?_
          rintro r5 tl1 h11 tk11 F11 N11 hO1 ⟨rs, hp, hpw, ts, hp2, hpw2, hD1⟩
          clear F10 N10
          dsimp only
          obtain ⟨hok, hperm, hplain⟩ := plain_huff w BU hp hpw hp2 hpw2
          dsimp only at hD1
          obtain ⟨cts, hcts⟩ : ∃ cts, tally (sizesOf (rs.map coinOf) M) = cts := ⟨_, rfl⟩
          obtain ⟨sys, hsys⟩ : ∃ sys, ts.map (·.2) = sys := ⟨_, rfl⟩
          rw [hcts, hsys] at hD1 hok hplain
          rw [hsys] at hperm
          clear hpw2 hp2 hpw hp hcts hsys
          obtain ⟨tp, p1, p2, kn, kn1, kn2, vs1, vs2, rfl, mtp, mp1, mp2, hA1, hA2⟩ := pair_in hD1
          have hI2 := datInts hA2
          k_steps
          unfold Stop
          rename_i h12 F12 N12
          refine item_tup N12 (v := .ref p1) (k := 0) rfl mtp (by decide) (by decide) ?_
          k_steps
          unfold Stop
          refine item_tup N12 (v := .ref p2) (k := 1) rfl mtp (by decide) (by decide) ?_
          k_steps
          unfold Stop
          refine tx_use (huff_tells w _ mg mb) (cts, sys) K0 F12 KX N12 T rfl ⟨_, _, rfl, .tuple mp1 hA1, .tuple mp2 hA2⟩ hok (by show callerA.depth + 1 + 20 < recursionLimit; decide) (by show callerA.units + 3 + 8 * 20 < cLine; decide) ?_
          rintro r6 tl2 h13 tk13 F13 N13 hO2 hTab
          clear F12 N12
          dsimp only
          replace hTab : TableIn w _ r6 (codesTo cts sys 16) := hTab
          obtain ⟨R, hR⟩ : ∃ R, tl1 ++ tl2 = R := ⟨_, rfl⟩
          have hoff : ∀ b, b ∈ [d, l, lc, ys, s₁.heap.objs.size + 1 + 1 + 1 + 1, s₁.heap.objs.size + 1 + 1 + 1, s₁.heap.objs.size + 1 + 1, s₁.heap.objs.size + 1] → ∀ p ∈ R, p.1 ≠ b := by
            exact fun b hb => hR ▸ alla (fun p hp => hO1 p hp b hb) fun p hp => hO2 p hp b (by rw [List.map_append]; exact List.mem_append_left _ hb)
          have hf1 := hoff (s₁.heap.objs.size + 1) (by first | k_mem | simp)
          have hf2 := hoff (s₁.heap.objs.size + 1 + 1) (by first | k_mem | simp)
          have hf3 := hoff (s₁.heap.objs.size + 1 + 1 + 1) (by first | k_mem | simp)
          have hf4 := hoff (s₁.heap.objs.size + 1 + 1 + 1 + 1) (by first | k_mem | simp)
          have N14 : News s₁.heap s₁.heap.objs.size h13 ((s₁.heap.objs.size + 1 + 1 + 1 + 1, o4) :: (s₁.heap.objs.size + 1 + 1 + 1, o3) :: (s₁.heap.objs.size + 1 + 1, oc2) :: (s₁.heap.objs.size + 1, o1') :: (d, od) :: (l, listOf #[Value.int xq txq, Value.int bq tbq] cq) :: (lc, listOf cvs.toArray cc) :: (ys, listOf (us.take n).toArray 0) :: R) := by
            refine nsub N13 ?_
            rw [List.append_assoc, hR]
            exact allc (by k_mem) (allc (by k_mem) (allc (by k_mem) (allc (by k_mem) (allc (by k_mem) (allc (by k_mem) (allc (by k_mem) (allc (by k_mem) (fun p hp => by k_mem))))))))
          clear N13
          k_steps
          unfold Stop
          rename_i h14 o3' F15 N15 d3'
          obtain ⟨B0, hB0⟩ : ∃ B0, B0 = ((s₁.heap.objs.size + 1 + 1 + 1 + 1, o4) :: (s₁.heap.objs.size + 1 + 1 + 1, o3') :: (s₁.heap.objs.size + 1 + 1, oc2) :: (s₁.heap.objs.size + 1, o1') :: (d, od) :: (l, listOf #[Value.int xq txq, Value.int bq tbq] cq) :: (lc, listOf cvs.toArray cc) :: (ys, listOf (us.take n).toArray 0) :: R) := ⟨_, rfl⟩
          rw [← hB0] at N15
          have hkp : ∀ p ∈ ([(d, od), (l, listOf #[Value.int xq txq, Value.int bq tbq] cq), (lc, listOf cvs.toArray cc), (ys, listOf (us.take n).toArray 0), (s₁.heap.objs.size + 1 + 1 + 1 + 1, o4), (s₁.heap.objs.size + 1 + 1 + 1, o3), (s₁.heap.objs.size + 1 + 1, oc2), (s₁.heap.objs.size + 1, o1')] ++ tl1 ++ tl2), (∀ c, p.2.data ≠ .cell c) → p ∈ B0 := by
            rw [List.append_assoc, hR, hB0]
            exact alla (allc (fun _ => by k_mem) (allc (fun _ => by k_mem) (allc (fun _ => by k_mem) (allc (fun _ => by k_mem) (allc (fun _ => by k_mem) (allc (fun hc => absurd d3 (hc _)) (allc (fun _ => by k_mem) (allc (fun _ => by k_mem) alln)))))))) fun p hp _ => by k_mem
          have hTB := hTab.keepC hkp
          have mp2B := hkp _ (List.mem_append_left _ mp2) (fun c h => nomatch h)
          have mtpB := hkp _ (List.mem_append_left _ mtp) (fun c h => nomatch h)
          have mysB : (ys, listOf (us.take n).toArray 0) ∈ B0 := by rw [hB0]; first | k_mem | simp
          clear hTab mp1 mp2 mtp hD1 hA1 hA2 hO1 hO2 hkp
          have hsl : sys.length = n := by rw [hperm.length_eq, hT1]
          have hvl : vs2.length = n := by rw [← hsl]; exact hI2.length
          k_dflt (refine comp_tupU (F₀ := by k_asm) (by with_unfolding_all rfl) (by decide) (by rfl) (by decide) (by rfl) ?_)
          k_steps
          unfold Stop
          refine item_tup N15 (v := .ref p2) (k := 1) rfl mtpB (by decide) (by decide) ?_
          refine ⟨p2, kn2, vs2.toArray, B0, rfl, rfl, F15, N15, mp2B, by rw [List.size_toArray, sizeLine_eq]; omega, ?_⟩
          rintro s2 ⟨g2, rfl⟩
          refine restU (fun k ys nw => nw = B0 ∧ IntsAre ys (sys.take k)) ?turn1 ?fin1 ⟨rfl, .nil⟩
          case turn1 =>
            rintro k ys9 nw hk9 ⟨rfl, hY⟩ sx v I oI C oC D m₂ h tk E' hv hC hx1 F16 N16 hoff9 hne
            have hv' : vs2[k]? = some v := by simpa using hv
            obtain ⟨hk', t9, rfl⟩ := ints_look hI2 hv'
            k_steps
            unfold Stop
            refine CompEnd.intro F16 N16 _ (fun _ hp => hp) hoff9 mp2B ⟨rfl, ?_⟩
            rw [show sys.take (k + 1) = sys.take k ++ [sys[k]] by rw [List.take_add_one, List.getElem?_eq_getElem hk']; rfl]
            exact ints_snoc hY
          case fin1 =>
            rintro ys9 nw ⟨rfl, hY⟩ D9 h tk F16 N16 o9
            rw [List.size_toArray, hvl, ← hsl, List.take_length] at hY
            dsimp only
            k_steps
            unfold Stop
            refine kso_sorted F16 N16 ⟨_, (N16 (D9, lst ys9) List.mem_cons_self).1, rfl, _, rfl⟩ hY (by omega) ?_
            intro D1 zs1 ns1 c1 h17 F17 N17 lt17 hI17 hl17 hp17 hw17 _
            dsimp only
            k_steps
            unfold Stop
            k_dflt (refine LCg.ListComp_U (F₀ := by k_asm) (by with_unfolding_all rfl) (by decide) (by rfl) (by decide) (by rfl) ?_)
            k_steps
            unfold Stop
            refine CompSrc.ledger rfl F17 N17 (List.mem_cons_of_mem _ (List.mem_cons_of_mem _ mysB)) (by rw [List.size_toArray, sizeLine_eq, hlT]; omega) ?_
            intro g3
            refine restU (fun k ys nw' => nw' = (D1, listOf zs1.toArray c1) :: (D9, lst ys9) :: nw ∧ IntsAre ys (T0.take k)) ?turn2 ?fin2 ⟨rfl, .nil⟩
            case turn2 =>
              clear F16 N16
              rintro k ys8 nw2 hk9 ⟨rfl, hY8⟩ sx v I oI C oC D m₂ h tk E' hv hC hx1 F18 N18 hoff9 hne
              have hv' : (us.take n)[k]? = some v := by simpa using hv
              obtain ⟨hk', t9, rfl⟩ := ints_look hIT hv'
              k_steps
              unfold Stop
              refine CompEnd.intro F18 N18 _ (fun _ hp => hp) hoff9 (.inr ⟨_, List.mem_cons_of_mem _ (List.mem_cons_of_mem _ mysB), rfl, _, rfl⟩) ⟨rfl, ?_⟩
              rw [show T0.take (k + 1) = T0.take k ++ [T0[k]] by rw [List.take_add_one, List.getElem?_eq_getElem hk']; rfl]
              exact ints_snoc hY8
            case fin2 =>
              clear F16 N16
              rintro ys8 nw2 ⟨rfl, hY8⟩ D8 h tk F18 N18 o8
              rw [List.size_toArray, hlT, List.take_length] at hY8
              dsimp only
              k_steps
              unfold Stop
              refine kso_sorted F18 N18 ⟨_, (N18 (D8, lst ys8) List.mem_cons_self).1, rfl, _, rfl⟩ hY8 (by omega) ?_
              intro D2 zs2 ns2 c2 h19 F19 N19 lt19 hI19 hl19 hp19 hw19 _
              have e12 : ns1 = ns2 := lks_uniq ((hp17.trans hperm).trans hp19.symm) hw17 hw19
              subst e12
              dsimp only
              k_steps
              unfold Stop
              refine dat_same N19 (d := .list (ns1.map .int)) (.list (n := c1) (vs := zs1) (by first | k_mem | simp) (intsDat hI17)) (.list (n := c2) (vs := zs2) (by first | k_mem | simp) (intsDat hI19)) (by simp [kqdOk]) (by show callerA.units + 3 + 64 < cLine; decide) ?_
              k_steps
              rename_i h20 F20 N20
              replace N20 : News s₁.heap s₁.heap.objs.size h20 nw := fun p hp => N20 p (by first | k_mem | simp [hp])
              clear hI19 hl19 hp19 hw19 lt19 hI17 hl17 hp17 hw17 lt17 hY8 o8 hY o9 mtpB mp2B
              as_aux_lemma =>
                have ks13 : KS "call builtin:any" := ⟨⟩
                obtain ⟨sz, hz1, hz2, hz3, hz4, hz5, hz6⟩ := hplain
                have hval : ∀ k (hk : k < T0.length), ∃ t, valueAt kvs2 T0[k] = some (.int (fs.getD k 0) t) := by
                  intro k hk
                  obtain ⟨h1, h2⟩ := es_at hfl hes hk
                  obtain ⟨t, ht⟩ := hkv2.val hod h1
                  rw [h2] at ht
                  exact ⟨t, ht⟩
                have hzl : (T0.zip fs).length = T0.length := by rw [List.length_zip]; omega
                obtain ⟨R0, hR0⟩ : ∃ R0, R0 = (s₁.heap.objs.size + 1 + 1 + 1, o3') :: (s₁.heap.objs.size + 1, o1') :: (d, od) :: (l, listOf #[Value.int xq txq, Value.int bq tbq] cq) :: (lc, listOf cvs.toArray cc) :: (ys, listOf (us.take n).toArray 0) :: R := ⟨_, rfl⟩
                have N21 : News s₁.heap s₁.heap.objs.size h20 ((s₁.heap.objs.size + 1 + 1 + 1 + 1, o4) :: (s₁.heap.objs.size + 1 + 1, oc2) :: R0) := by
                  refine nsub N20 ?_
                  rw [hB0, hR0]
                  exact allc (by k_mem) (allc (by k_mem) (allc (by k_mem) (allc (by k_mem) (allc (by k_mem) (allc (by k_mem) (allc (by k_mem) (allc (by k_mem) (fun p hp => by k_mem))))))))
                have hTR : TableIn w R0 r6 (codesTo cts sys 16) := by
                  refine hTB.keepC ?_
                  rw [hB0, hR0]
                  exact allc (fun hc => absurd d4 (hc _)) (allc (fun _ => by k_mem) (allc (fun hc => absurd d2 (hc _)) (allc (fun _ => by k_mem) (allc (fun _ => by k_mem) (allc (fun _ => by k_mem) (allc (fun _ => by k_mem) (allc (fun _ => by k_mem) fun p hp _ => by k_mem)))))))
                have hm3 : (s₁.heap.objs.size + 1 + 1 + 1, o3') ∈ R0 := by rw [hR0]; first | k_mem | simp
                have hm1 : (s₁.heap.objs.size + 1, o1') ∈ R0 := by rw [hR0]; first | k_mem | simp
                have hmd : (d, od) ∈ R0 := by rw [hR0]; first | k_mem | simp
                have hmy : (ys, listOf (us.take n).toArray 0) ∈ R0 := by rw [hR0]; first | k_mem | simp
                have hg4 : ∀ p ∈ R0, @Ne Nat p.1 (s₁.heap.objs.size + 1 + 1 + 1 + 1) := by
                  rw [hR0]
                  exact allc (Nat.ne_of_lt (Nat.lt_succ_self (s₁.heap.objs.size + 1 + 1 + 1))) (allc (ne_add (Nat.lt_succ_self (s₁.heap.objs.size + 1)) 2) (allc (Nat.ne_of_gt ltD.2.2.1) (allc (Nat.ne_of_gt ltl) (allc (Nat.ne_of_gt ltc.2.2.2) (allc (Nat.ne_of_gt (Nat.lt_trans ltl ltys)) hf4)))))
                have hg2 : ∀ p ∈ R0, @Ne Nat p.1 (s₁.heap.objs.size + 1 + 1) := by
                  have hq : @LT.lt Nat _ (s₁.heap.objs.size + 1 + 1) (s₁.heap.objs.size + 1 + 1 + 1 + 1) := Nat.lt_add_of_pos_right (k := 2) (by decide)
                  rw [hR0]
                  exact allc (Nat.ne_of_gt (Nat.lt_succ_self (s₁.heap.objs.size + 1 + 1))) (allc (Nat.ne_of_lt (Nat.lt_succ_self (s₁.heap.objs.size + 1))) (allc (Nat.ne_of_gt ltD.2.2.2.2.1) (allc (Nat.ne_of_gt (Nat.lt_trans hq ltl)) (allc (Nat.ne_of_gt (Nat.lt_trans hq ltc.2.2.2)) (allc (Nat.ne_of_gt (Nat.lt_trans hq (Nat.lt_trans ltl ltys))) hf2)))))
                obtain ⟨xT, dxT, cdT, oT, kvT, tT1, tT2, tT3, tT4, lcT, lsT, lrT, rT, hxT, hdxT, -, -, -, -⟩ := id hTR
                subst rT
                unfold Stop
                obtain ⟨mR, FM⟩ : ∃ mR : Str → Option Value, Fr s₁.heap s₁.heap.objs.size h20 (fun y => if y = Str.ofString "cost" then some (.int 0 (tk)) else if y = Str.ofString "counts" then some (.ref lc) else if y = Str.ofString "source" then some (.ref l) else if y = Str.ofString "symbols" then some (.ref ys) else if y = Str.ofString "most" then some (.int (M : Int) tk3) else mR y) :=
                  ⟨_, fr_as (fr_as (fr_as (fr_as (fr_as F20 (a := Str.ofString "most") rfl) (a := Str.ofString "symbols") rfl) (a := Str.ofString "source") rfl) (a := Str.ofString "counts") rfl) (a := Str.ofString "cost") rfl⟩
                clear F20 N20 hB0 hTB mysB hoff hf1 hf2 hf3 hf4
                refine For_turns FM ?_
                k_steps
                unfold Stop
                refine for_list (vs := us.take n) (n := 0) (LawJ s₁ R0 T0 fs sz lc l ys M tk3)
                  rfl FM N21 ?mem ?keep ⟨o4, oc2, _, _, _, rfl, d4, d2, rfl, rfl, rfl, rfl, rfl⟩ ?turn ?done
                case mem => k_mem
                case keep =>
                  rintro i m nx ⟨o4, o2, v4, v2, tc, rfl, -⟩
                  k_mem
                case turn =>
                  clear FM N21 d4 d2
                  rintro sx Q1 i v m nx I it h tk hi ⟨o4, o2, v4, v2, tc, rfl, d4, d2, hq1, hq2, hq3, hq4, hq5⟩ hIo hcI F5 N5
                  have F6 := fr_as (fr_as (fr_as (fr_as (fr_as F5 (a := Str.ofString "most") hq5) (a := Str.ofString "symbols") hq4) (a := Str.ofString "source") hq3) (a := Str.ofString "counts") hq2) (a := Str.ofString "cost") hq1
                  clear F5
                  obtain ⟨hi', tv, rfl⟩ := ints_look hIT hi
                  obtain ⟨sym, hsym⟩ : ∃ c, T0[i] = c := ⟨_, rfl⟩
                  rw [hsym] at hi ⊢
                  obtain ⟨cst, hcst⟩ : ∃ cst, (((T0.zip fs).take i).map fun e => sz e.1 * e.2).sum = cst := ⟨_, rfl⟩
                  rw [hcst] at F6
                  have hI4 : @Ne Nat (s₁.heap.objs.size + 1 + 1 + 1 + 1) I := hIo (s₁.heap.objs.size + 1 + 1 + 1 + 1, o4) (by first | k_mem | simp)
                  have hI2 : @Ne Nat (s₁.heap.objs.size + 1 + 1) I := hIo (s₁.heap.objs.size + 1 + 1, o2) (by first | k_mem | simp)
                  have hIR : ∀ p ∈ R0, p.1 ≠ I := fun p hp => hIo p (by first | k_mem | simp [hp])
                  k_steps
                  unfold Stop
                  rename_i h6 o2' F6 N6 d2'
                  clear d2
                  have hsT : sym ∈ T0 := hsym ▸ List.getElem_mem hi'
                  have hs8 := (hz3 sym hsT).2
                  refine tx_use (code_tells w _ mg mb) (codesTo cts sys 16, sym) K0 F6 KX N6 T rfl ⟨_, _, rfl, hTR.keepC (fun p hp _ => by k_mem)⟩ (hz1 sym hsT) (by show callerA.depth + 1 + 6 < recursionLimit; decide) (by show callerA.units + 3 + 8 * 6 < cLine; decide) ?_
                  rintro r7 tl h7 tk7 F7 N7 hO7 ⟨a7, b7, z7, t7, u7, n7, rfl, hm7, hz7⟩
                  obtain rfl := hz2 _ _ hz7
                  clear F6 N6 hz7
                  obtain ⟨R1, hR1⟩ : ∃ R1, R1 = R0 ++ tl := ⟨_, rfl⟩
                  have N8 : News s₁.heap s₁.heap.objs.size h7 ((I, it) :: (s₁.heap.objs.size + 1 + 1 + 1 + 1, o4) :: (s₁.heap.objs.size + 1 + 1, o2') :: R1) := by
                    rw [hR1]
                    exact nsub N7 (allc (by k_mem) (allc (by k_mem) (allc (by k_mem) (alla (fun p hp => by k_mem) fun p hp => List.mem_append_right _ hp))))
                  have hm8 : (a7, ({ cls := .type "tuple", data := .seq (List.toArray [.int b7 t7, .int (sz sym) u7]) n7 } : Obj)) ∈ ((I, it) :: (s₁.heap.objs.size + 1 + 1 + 1 + 1, o4) :: (s₁.heap.objs.size + 1 + 1, o2') :: R1) := by
                    rw [hR1]
                    exact hm7
                  have hk4 : ∀ p ∈ R1, @Ne Nat p.1 (s₁.heap.objs.size + 1 + 1 + 1 + 1) := by
                    exact hR1 ▸ alla hg4 fun p hp => hO7 p hp _ (by k_mem)
                  have hk2 : ∀ p ∈ R1, @Ne Nat p.1 (s₁.heap.objs.size + 1 + 1) := by
                    exact hR1 ▸ alla hg2 fun p hp => hO7 p hp _ (by k_mem)
                  have hkR : ∀ p ∈ R0, p ∈ R1 := fun p hp => hR1 ▸ List.mem_append_left _ hp
                  clear N7 hm7
                  dsimp only
                  k_steps
                  unfold Stop
                  rename_i h9 o4' F9 N9 d4'
                  clear d4
                  obtain ⟨B1, hB1⟩ : ∃ B1, B1 = ((I, it) :: (s₁.heap.objs.size + 1 + 1 + 1 + 1, o4') :: (s₁.heap.objs.size + 1 + 1, o2') :: R1) := ⟨_, rfl⟩
                  rw [← hB1] at N9
                  have hb4 : (s₁.heap.objs.size + 1 + 1 + 1 + 1, o4') ∈ B1 := by rw [hB1]; first | k_mem | simp
                  have hb2 : (s₁.heap.objs.size + 1 + 1, o2') ∈ B1 := by rw [hB1]; first | k_mem | simp
                  have hbR : ∀ p ∈ R0, p ∈ B1 := fun p hp => by have hq := hkR p hp; rw [hB1]; k_mem
                  have hb3 := hbR _ hm3
                  have hb1 := hbR _ hm1
                  have hbd := hbR _ hmd
                  have hby := hbR _ hmy
                  have hbx := hbR _ hxT
                  have hbdx := hbR _ hdxT
                  have hTB := hTR.keepC (fun p hp _ => hbR p hp)
                  k_dflt (refine LCg.ListComp_U (F₀ := by k_asm) (by with_unfolding_all rfl) (by decide) (by rfl) (by decide) (by rfl) ?_)
                  k_steps
                  unfold Stop
                  refine CompSrc.ledger rfl F9 N9 hby (by rw [List.size_toArray, sizeLine_eq, hlT]; omega) ?_
                  intro g3
                  refine restU (fun k ys nw => nw = B1 ∧ LSm.BoolsAre ys (List.replicate k false)) ?turn2 ?fin2 ⟨rfl, .nil⟩
                  case turn2 =>
                    rintro k ys8 nw2 hk9 ⟨rfl, hY8⟩ sy v I2 oI C oC D m₂ h tk E' hv hC hx1 F11 N11 hoff9 hne
                    have hv' : (us.take n)[k]? = some v := by simpa using hv
                    obtain ⟨hk', t9, rfl⟩ := ints_look hIT hv'
                    obtain ⟨oth, hoth⟩ : ∃ c, T0[k] = c := ⟨_, rfl⟩
                    rw [hoth] at hx1
                    k_steps
                    refine tx_use (code_tells w _ mg mb) (codesTo cts sys 16, oth) K0 F11 KX N11 T rfl ⟨_, _, rfl, hTB.keepC (fun p hp _ => by k_mem)⟩ (hz1 oth (hoth ▸ List.getElem_mem hk')) (by show callerA.depth + 1 + 6 < recursionLimit; decide) (by show callerA.units + 3 + 8 * 6 < cLine; decide) ?_
                    rintro r8 tl8 h12 tk12 F12 N12 hO12 ⟨a8, b8, z8, t8, u8, n8, rfl, hm8, hz8⟩
                    obtain rfl := hz2 _ _ hz8
                    clear hz8
                    have N13 : News s₁.heap s₁.heap.objs.size h12 ((I2, oI) :: (C, oC) :: (D, lst ys8) :: (a8, ({ cls := .type "tuple", data := .seq (List.toArray [.int b8 t8, .int (sz oth) u8]) n8 } : Obj)) :: nw2) := by
                      exact nsub N12 (allc (by k_mem) (allc (by k_mem) (allc (by k_mem) (allc hm8 fun p hp => by k_mem))))
                    clear N12 hm8 hO12 F11 N11
                    dsimp only
                    k_steps
                    · unfold Stop
                      rename_i hlt
                      obtain ⟨q1, hq1⟩ := hval k hk'
                      obtain ⟨q2, hq2⟩ := hval i hi'
                      rw [hoth] at hq1
                      rw [hsym] at hq2
                      refine dict_at N13 (by first | k_mem | simp [hbd]) hod hq1 ?_
                      k_steps
                      unfold Stop
                      refine dict_at N13 (by first | k_mem | simp [hbd]) hod hq2 ?_
                      k_steps
                      unfold Stop
                      have hle := hz4 i k hi' hk' (by rw [hsym, hoth]; exact hlt)
                      rw [decide_eq_false (Int.not_lt.mpr hle)]
                      refine CompEnd.intro F12 N13 _ (fun p hp => ?_) hoff9 (.inr ⟨_, hby, rfl, _, rfl⟩) ⟨rfl, ?_⟩
                      · simp only [List.mem_cons] at hp ⊢
                        rcases hp with hp | hp | hp | hp <;> first | (subst hp; k_mem) | k_mem | simp [hp]
                      rw [List.replicate_succ']
                      exact bools_snoc hY8 false
                    · unfold Stop
                      rename_i hlt
                      rw [decide_eq_false hlt]
                      refine CompEnd.intro F12 N13 _ (fun p hp => ?_) hoff9 (.inr ⟨_, hby, rfl, _, rfl⟩) ⟨rfl, ?_⟩
                      · simp only [List.mem_cons] at hp ⊢
                        rcases hp with hp | hp | hp | hp <;> first | (subst hp; k_mem) | k_mem | simp [hp]
                      rw [List.replicate_succ']
                      exact bools_snoc hY8 false
                  case fin2 =>
                    rintro ys8 nw2 ⟨rfl, hY8⟩ D8 h tk F11 N11 o8
                    dsimp only
                    k_steps
                    unfold Stop
                    refine LSm.any_bools F11 N11 rfl ⟨_, (N11 (D8, lst ys8) List.mem_cons_self).1, rfl, _, rfl⟩ hY8 ?_
                    intro h12 tk12 F12 N12
                    rw [any_false]
                    dsimp only
                    k_steps
                    unfold Stop
                    obtain ⟨q2, hq2⟩ := hval i hi'
                    rw [hsym] at hq2
                    have hs9 := hz3 sym hsT
                    refine dict_at N12 (by first | k_mem | simp [hbd]) hod hq2 ?_
                    k_steps
                    unfold Stop
                    rename_i h13 F13 N13
                    have e9 : (((T0.zip fs).take (i + 1)).map fun e => sz e.1 * e.2).sum = cst + sz sym * fs.getD i 0 := by
                      have e8 : ((T0.zip fs).take (i + 1)) = (T0.zip fs).take i ++ [(sym, fs.getD i 0)] := by
                        obtain ⟨h1, h2⟩ := es_at hfl (.inl rfl) hi'
                        rw [List.take_add_one, List.getElem?_eq_getElem h1, h2, hsym]; rfl
                      rw [e8, List.map_append, List.sum_append, hcst]
                      simp
                    refine ⟨_, _, _, (s₁.heap.objs.size + 1 + 1 + 1 + 1, o4') :: (s₁.heap.objs.size + 1 + 1, o2') :: R0, rfl, F13, fun p hp => N13 p ?_, ?_, o4', o2', some (.int (sz sym) u7), some (.int sym tv), _, rfl, d4', d2', by rw [e9]; exact rfl, rfl, rfl, rfl, rfl⟩
                    · simp only [List.cons_append, List.nil_append, List.mem_cons] at hp ⊢
                      rcases hp with hp | hp | hp | hp
                      · right; rw [hB1]; simp [hp]
                      · right; rw [hp]; exact hb4
                      · right; rw [hp]; exact hb2
                      · right; exact hbR _ hp
                    · intro p hp q hq
                      rw [List.mem_singleton.mp hq]
                      simp only [List.mem_cons] at hp
                      rcases hp with rfl | rfl | hp
                      · exact hI4
                      · exact hI2
                      · exact hIR p hp
                case done =>
                  clear FM N21 d4 d2
                  rintro m nx h tk ⟨o4, o2, v4, v2, tc, rfl, d4, d2, hq1, hq2, hq3, hq4, hq5⟩ F5 N5
                  have F6 := fr_as (fr_as (fr_as (fr_as (fr_as F5 (a := Str.ofString "most") hq5) (a := Str.ofString "symbols") hq4) (a := Str.ofString "source") hq3) (a := Str.ofString "counts") hq2) (a := Str.ofString "cost") hq1
                  clear F5
                  rw [hlT, ← hzl, List.take_length] at F6
                  obtain ⟨cst, hcst⟩ : ∃ cst, ((T0.zip fs).map fun e => sz e.1 * e.2).sum = cst := ⟨_, rfl⟩
                  rw [hcst] at F6 hz5
                  k_steps
                  unfold Stop
                  replace F6 : Fr s₁.heap s₁.heap.objs.size h (fun y => if y = Str.ofString "cost" then some (.int cst tc) else if y = Str.ofString "counts" then some (.ref lc) else if y = Str.ofString "source" then some (.ref l) else if y = Str.ofString "symbols" then some (.ref ys) else if y = Str.ofString "most" then some (.int (M : Int) tk3) else m y) := F6
                  replace N5 : News s₁.heap s₁.heap.objs.size h ((s₁.heap.objs.size + 1 + 1 + 1 + 1, o4) :: (s₁.heap.objs.size + 1 + 1, o2) :: R0) := N5
                  refine tx_use (cheap_tells w _ mg mb) (fs, M) K0 F6 KX N5 T rfl ⟨_, _, rfl, .list (n := cc) (vs := cvs) (by rw [hR0]; first | k_mem | simp) (intsDat hIC)⟩ ⟨by show fs.length ≤ 4; omega, by show 1 ≤ M; omega, by show M ≤ 4; omega, hz6⟩ (by show callerA.depth + 1 + 6 < recursionLimit; decide) (by show callerA.units + 3 + 8 * 6 < cLine; decide) ?_
                  rintro r9 tl9 h9 tk9 F9 N9 hO9 ⟨Mv, t9, rfl, hM1, hM2⟩
                  obtain rfl := hz5 Mv hM1 hM2
                  dsimp only
                  k_steps
                  unfold Stop
                  have N10 : News s₁.heap s₁.heap.objs.size h9 ([] ++ (l, listOf #[Value.int xq txq, Value.int bq tbq] cq) :: []) := by
                    intro p hp
                    rw [List.nil_append] at hp
                    rw [List.mem_singleton.mp hp]
                    exact N9 _ (by rw [hR0]; first | k_mem | simp)
                  refine edges_tells w _ mg mb _ _ _ _ _ l [] [] _ _ _ _ _ _ _ _ _ _ _ _ _ _ _ _ K0 F9 KX KX N10 T T rfl (fun _ h => nomatch h) (fun _ h => nomatch h) hxq hbq0 hbq1 (by decide) (by decide) ?_
                  intro h10 tk10 F10
                  dsimp only
                  k_steps))
end
end Mine
theorem PySem.Challenge.cw_nt0548_01_holds : PySem.Challenge.rw_nt0548_01.Holds := by
  exact Mine.law_walk _ id
